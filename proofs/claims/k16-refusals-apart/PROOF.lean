import PyProof.Rows.All
import Wide.All
import OpenK.AllK
import Wide.FinOn
import PySem.Challenge.RW_drawhouse_k16_refusals_apart
import HandS.ForMost
import HandS.ForExc
import HandS.Walk
import HandS.IsInst
import HandS.Wide
import HandS.WideBits
import HandS.Deep
import HandS.Conv
import HandS.Flow
import HandS.Evl
import HandS.TryOnly
import HandS.ExcOwn
import HandS.Codes
import HandS.Small
import HandS.RaiseMore
import HandS.DeepEq
import PyProof.StrOps2
import PyProof.P3Eq
import PyProof.ExcBaseAll.ValueError
import HandS.Rev
import HandS.TupLe
import HandS.SuiteRaise
import HandS.ExcInit
import HandS.ExcField
import HandS.ExcIs
import KE.KExcIs
import HandS.HotCalls
import PyProof.Rows.StrNews2
import HandS.More
import KE.KRevSl
import KE.DataFind
import KE.DatumOrd
import HandS.ExcValue
set_option Elab.async false
set_option linter.all false
set_option maxRecDepth 100000
set_option maxHeartbeats 4000000
/-! Se0: texts and lists. -/
namespace Sd
open PySem PySem.Spec PyProof.Rows L2
abbrev S (l : List Nat) : Str := ⟨l.toArray⟩
/-- the greatest length of a text -/
def LMax : Nat := 16000000
def chrOk (l : List Nat) : Bool := l.all (· < 0x110000)
structure StrOk (l : List Nat) : Prop where
  len : l.length ≤ LMax
  chr : chrOk l = true
theorem StrOk.line {l : List Nat} (h : StrOk l) : l.length + 2 ≤ sizeLine := by
  have := h.len
  unfold LMax at this
  rw [sizeLine_eq]
  omega
theorem StrOk.le {l : List Nat} (h : StrOk l) : l.length ≤ sizeLine := by
  have := h.line
  omega
theorem chrOk_sub {l m : List Nat} (h : chrOk m = true) (s : ∀ x ∈ l, x ∈ m) : chrOk l = true := by
  unfold chrOk at h ⊢
  rw [List.all_eq_true] at h ⊢
  exact fun x hx => h x (s x hx)
theorem StrOk.sub {l m : List Nat} (h : StrOk m) (s : ∀ x ∈ l, x ∈ m) (n : l.length ≤ m.length) : StrOk l := ⟨Nat.le_trans n h.len, chrOk_sub h.chr s⟩
theorem chrOk_app {l m : List Nat} (h : chrOk l = true) (k : chrOk m = true) : chrOk (l ++ m) = true := by
  unfold chrOk at h k ⊢
  rw [List.all_append, h, k]
  rfl
def strOkB (l : List Nat) : Bool := decide (l.length ≤ 1000) && chrOk l
theorem strOk_of {l : List Nat} (h : strOkB l = true) : StrOk l := by
  unfold strOkB at h
  rw [Bool.and_eq_true, decide_eq_true_eq] at h
  exact ⟨by unfold LMax; omega, h.2⟩
def cutL {α : Type} (xs : List α) (lo hi : Option Int) : List α := (xs.drop (HT.sIx xs.length 0 lo)).take (HT.sIx xs.length xs.length hi - HT.sIx xs.length 0 lo)
theorem cutL_map {α β : Type} {f : α → β} (xs : List α) (lo hi : Option Int) : cutL (xs.map f) lo hi = (cutL xs lo hi).map f := by
  unfold cutL
  rw [List.length_map, List.map_take, List.map_drop]
/-! ### total readings -/
def ix {α : Type} (xs : List α) (i : Int) (d : α) : α := (atI xs i).getD d
theorem atI_some {α : Type} {xs : List α} {i : Int} (h : -(xs.length : Int) ≤ i ∧ i < xs.length) : ∃ y, atI xs i = some y := by
  unfold atI ixN
  by_cases h0 : 0 ≤ i
  · rw [if_pos h0, if_pos h.2]
    exact ⟨xs[i.toNat]'(by omega), by show xs[i.toNat]? = _; rw [List.getElem?_eq_getElem]⟩
  · rw [if_neg h0, if_pos h.1]
    exact ⟨xs[(i + xs.length).toNat]'(by omega), by show xs[(i + xs.length).toNat]? = _; rw [List.getElem?_eq_getElem]⟩
theorem ix_ok {α : Type} {xs : List α} {i : Int} {d : α} (h : -(xs.length : Int) ≤ i ∧ i < xs.length) : atI xs i = some (ix xs i d) := by
  obtain ⟨y, e⟩ := atI_some h
  unfold ix
  rw [e]
  rfl
theorem ix_nat {α : Type} (xs : List α) (i : Nat) (d : α) : ix xs (i : Int) d = xs.getD i d := by
  unfold ix atI ixN
  by_cases h : i < xs.length
  · rw [if_pos (by omega), if_pos (by omega)]
    show (xs[(i : Int).toNat]?).getD d = _
    simp
  · rw [if_pos (by omega), if_neg (by omega)]
    show d = _
    rw [List.getD_eq_getElem?_getD, List.getElem?_eq_none (by omega)]
    rfl
def splitS (l m : List Nat) : List (List Nat) := (Txt.split (S l) (S m)).map fun z => z.cps.toList
def joinS (l : List Nat) (ls : List (List Nat)) : List Nat := (Txt.join (S l) (ls.map S)).cps.toList
def enumI {α : Type} (xs : List α) : List (Int × α) := xs.zipIdx.map fun z => ((z.2 : Int), z.1)

theorem joinS_eq (l : List Nat) (ls : List (List Nat)) : joinS l ls = TL.joinL l ls := by
  have h := SX.join_S l ls
  unfold joinS
  show (Txt.join (SX.S l) (ls.map SX.S)).cps.toList = _
  rw [h]
def consH (x : Nat) : List (List Nat) → List (List Nat)
  | [] => [[x]]
  | h :: t => (x :: h) :: t
def spC (c : Nat) : List Nat → List (List Nat)
  | [] => [[]]
  | x :: xs => if x = c then [] :: spC c xs else consH x (spC c xs)
theorem spC_ne (c : Nat) (l : List Nat) : spC c l ≠ [] := by
  cases l with
  | nil => simp [spC]
  | cons x xs =>
    unfold spC
    split
    · simp
    · cases spC c xs <;> simp [consH]
theorem spl_one (c : Nat) : ∀ (l acc : List Nat), TL.spl [c] 0 acc l = (match spC c l with | [] => [acc] | h :: t => (acc ++ h) :: t)
  | [], acc => by simp [TL.spl, spC]
  | x :: xs, acc => by
    by_cases h : x = c
    · subst h
      have hp : TL.pre [x] (x :: xs) = true := by simp [TL.pre]
      rw [TL.spl_hit hp]
      show acc :: TL.spl [x] 0 [] xs = _
      rw [spl_one x xs []]
      have e : spC x (x :: xs) = [] :: spC x xs := by
        show (if x = x then _ else _) = _
        rw [if_pos rfl]
      rw [e]
      simp only [List.append_nil, List.nil_append]
      cases hs : spC x xs with
      | nil => exact absurd hs (spC_ne x xs)
      | cons a b => rfl
    · have hp : TL.pre [c] (x :: xs) = false := by simp [TL.pre, h]
      rw [TL.spl_miss hp, spl_one c xs (acc ++ [x])]
      have e : spC c (x :: xs) = consH x (spC c xs) := by
        show (if x = c then _ else _) = _
        rw [if_neg h]
      rw [e]
      cases hs : spC c xs with
      | nil => exact absurd hs (spC_ne c xs)
      | cons a b => simp [consH]
theorem splitS_one {c : Nat} (hc : c < 256) (l : List Nat) : splitS l [c] = spC c l := by
  have h := SX.split_S (a := l) (b := [c]) (by simp) (by simp [hc])
  unfold splitS
  show (Txt.split (SX.S l) (SX.S [c])).map (fun z => z.cps.toList) = _
  rw [h, List.map_map]
  have e : ((fun z : Str => z.cps.toList) ∘ SX.S) = id := by
    funext z
    simp [SX.S]
  rw [e, List.map_id, spl_one]
  cases hs : spC c l with
  | nil => exact absurd hs (spC_ne c l)
  | cons a b => simp
theorem spC_free {c : Nat} : ∀ (l : List Nat) (p : List Nat), p ∈ spC c l → c ∉ p
  | [], p, h => by
    simp [spC] at h
    subst h
    simp
  | x :: xs, p, h => by
    unfold spC at h
    split at h
    · rcases List.mem_cons.mp h with e | h
      · subst e
        simp
      · exact spC_free xs p h
    · rename_i hx
      cases hs : spC c xs with
      | nil => exact absurd hs (spC_ne c xs)
      | cons a b =>
        rw [hs] at h
        have ih : ∀ q ∈ a :: b, c ∉ q := fun q hq => spC_free xs q (by rw [hs]; exact hq)
        rcases List.mem_cons.mp h with e | h
        · subst e
          intro hm
          rcases List.mem_cons.mp hm with e | hm
          · exact hx e.symm
          · exact ih a List.mem_cons_self hm
        · exact ih p (List.mem_cons_of_mem _ h)
theorem spC_no {c : Nat} : ∀ {l : List Nat}, c ∉ l → spC c l = [l]
  | [], _ => rfl
  | x :: xs, h => by
    unfold spC
    rw [if_neg (fun e => h (by rw [e]; exact List.mem_cons_self)), spC_no (fun m => h (List.mem_cons_of_mem _ m))]
    rfl
theorem spC_app {c : Nat} : ∀ {p : List Nat} (q : List Nat), c ∉ p → spC c (p ++ c :: q) = p :: spC c q
  | [], q, _ => by
    show (if c = c then _ else _) = _
    rw [if_pos rfl]
  | x :: xs, q, h => by
    show (if x = c then _ else consH x (spC c (xs ++ c :: q))) = _
    rw [if_neg (fun e => h (by rw [e]; exact List.mem_cons_self)), spC_app q (fun m => h (List.mem_cons_of_mem _ m))]
    rfl
theorem spC_join {c : Nat} : ∀ {ls : List (List Nat)}, ls ≠ [] → (∀ p ∈ ls, c ∉ p) → spC c (TL.joinL [c] ls) = ls
  | [], h, _ => absurd rfl h
  | [p], _, h => spC_no (h p List.mem_cons_self)
  | p :: q :: r, _, h => by
    show spC c (p ++ ([c] ++ TL.joinL [c] (q :: r))) = _
    rw [List.singleton_append, spC_app _ (h p List.mem_cons_self), spC_join (by simp) (fun x hx => h x (List.mem_cons_of_mem _ hx))]
theorem join_spC (c : Nat) : ∀ (l : List Nat), TL.joinL [c] (spC c l) = l
  | [] => rfl
  | x :: xs => by
    have ih := join_spC c xs
    unfold spC
    cases hs : spC c xs with
    | nil => exact absurd hs (spC_ne c xs)
    | cons a b =>
      rw [hs] at ih
      split
      · rename_i e
        show [] ++ ([c] ++ TL.joinL [c] (a :: b)) = _
        rw [ih, e]
        rfl
      · cases b with
        | nil =>
          have ih' : a = xs := ih
          show x :: a = _
          rw [ih']
        | cons b r =>
          show (x :: a) ++ ([c] ++ TL.joinL [c] (b :: r)) = _
          rw [List.cons_append]
          exact congrArg (x :: ·) ih
theorem split_join {c : Nat} (hc : c < 256) {ls : List (List Nat)} (h : ls ≠ []) (hp : ∀ p ∈ ls, c ∉ p) : splitS (joinS [c] ls) [c] = ls := by
  rw [splitS_one hc, joinS_eq, spC_join h hp]
theorem join_split {c : Nat} (hc : c < 256) (l : List Nat) : joinS [c] (splitS l [c]) = l := by
  rw [splitS_one hc, joinS_eq, join_spC]
theorem joinL_nil : ∀ (ls : List (List Nat)), TL.joinL [] ls = ls.flatten
  | [] => rfl
  | [p] => by simp [TL.joinL]
  | p :: q :: r => by
    show p ++ ([] ++ TL.joinL [] (q :: r)) = _
    rw [joinL_nil (q :: r)]
    rfl
theorem joinS_nil (ls : List (List Nat)) : joinS [] ls = ls.flatten := by rw [joinS_eq, joinL_nil]
theorem joinL_len (S : List Nat) : ∀ (ls : List (List Nat)), (TL.joinL S ls).length ≤ (ls.map (·.length)).sum + ls.length * S.length
  | [] => by simp [TL.joinL]
  | [p] => by simp [TL.joinL]
  | p :: q :: r => by
    have ih := joinL_len S (q :: r)
    show (p ++ (S ++ TL.joinL S (q :: r))).length ≤ _
    rw [List.length_append, List.length_append, List.map_cons, List.sum_cons, List.length_cons (as := q :: r)]
    rw [Nat.add_mul]
    omega
theorem sum_le {n : Nat} : ∀ {ls : List (List Nat)}, (∀ x ∈ ls, x.length ≤ n) → (ls.map (·.length)).sum ≤ n * ls.length
  | [], _ => by simp
  | p :: r, h => by
    have ih := sum_le (ls := r) (fun x hx => h x (List.mem_cons_of_mem _ hx))
    have hp := h p List.mem_cons_self
    rw [List.map_cons, List.sum_cons, List.length_cons, Nat.mul_add]
    omega
theorem join_ok {n m k : Nat} {ls : List (List Nat)} {s : List Nat} (h : ∀ x ∈ ls, x.length ≤ n) (hm : ls.length ≤ m) (hs : s.length ≤ k) (hk : n * m + m * k ≤ 16777216) : (ls.map (·.length)).sum + ls.length * s.length ≤ 16777216 := by
  have h1 := sum_le h
  have h2 := Nat.mul_le_mul (Nat.le_refl n) hm
  have h3 := Nat.mul_le_mul hm hs
  omega
theorem joinS_len {n m k : Nat} {ls : List (List Nat)} {s : List Nat} (h : ∀ x ∈ ls, x.length ≤ n) (hm : ls.length ≤ m) (hs : s.length ≤ k) : (joinS s ls).length ≤ n * m + m * k := by
  rw [joinS_eq]
  have h0 := joinL_len s ls
  have h1 := sum_le h
  have h2 := Nat.mul_le_mul (Nat.le_refl n) hm
  have h3 := Nat.mul_le_mul hm hs
  omega
theorem cutL_sub {α : Type} {xs : List α} {i j : Option Int} {x : α} (h : x ∈ cutL xs i j) : x ∈ xs := by
  unfold cutL at h
  exact List.mem_of_mem_drop (List.mem_of_mem_take h)
theorem cutL_len {α : Type} (xs : List α) (i j : Option Int) : (cutL xs i j).length ≤ xs.length := by
  unfold cutL
  rw [List.length_take, List.length_drop]
  omega
theorem spC_len_le {c : Nat} : ∀ (l : List Nat), (spC c l).length ≤ l.length + 1
  | [] => by simp [spC]
  | x :: xs => by
    have ih := spC_len_le (c := c) xs
    unfold spC
    split
    · rw [List.length_cons, List.length_cons]
      omega
    · cases hs : spC c xs with
      | nil => exact absurd hs (spC_ne c xs)
      | cons a b =>
        rw [hs] at ih
        simp only [consH, List.length_cons] at ih ⊢
        omega
theorem spC_mem_len {c : Nat} : ∀ (l : List Nat) (p : List Nat), p ∈ spC c l → p.length ≤ l.length
  | [], p, h => by
    simp [spC] at h
    subst h
    simp
  | x :: xs, p, h => by
    have ih := spC_mem_len (c := c) xs
    unfold spC at h
    split at h
    · rcases List.mem_cons.mp h with e | h
      · subst e
        simp
      · have := ih p h
        rw [List.length_cons]
        omega
    · cases hs : spC c xs with
      | nil => exact absurd hs (spC_ne c xs)
      | cons a b =>
        rw [hs] at h ih
        rcases List.mem_cons.mp h with e | h
        · subst e
          have := ih a List.mem_cons_self
          rw [List.length_cons, List.length_cons]
          omega
        · have := ih p (List.mem_cons_of_mem _ h)
          rw [List.length_cons]
          omega
theorem splitS_len {c : Nat} (hc : c < 256) (l : List Nat) : (splitS l [c]).length ≤ l.length + 1 := by rw [splitS_one hc]; exact spC_len_le l
theorem splitS_pos {c : Nat} (hc : c < 256) (l : List Nat) : 0 < (splitS l [c]).length := by rw [splitS_one hc]; exact List.length_pos_iff.mpr (spC_ne c l)
theorem splitS_mem {c : Nat} (hc : c < 256) {l p : List Nat} (h : p ∈ splitS l [c]) : p.length ≤ l.length ∧ c ∉ p := by
  rw [splitS_one hc] at h
  exact ⟨spC_mem_len l p h, spC_free l p h⟩
theorem at_mem {α : Type} {xs : List α} {i : Int} {y : α} (h : atI xs i = some y) : y ∈ xs := by
  unfold atI at h
  cases e : ixN xs.length i with
  | none =>
    rw [e] at h
    cases h
  | some j =>
    rw [e] at h
    exact List.mem_of_getElem? h
theorem StrOk.one {l : List Nat} (h : StrOk l) {c : Nat} (hc : c ∈ l) : StrOk [c] := ⟨by show 1 ≤ LMax; unfold LMax; decide, chrOk_sub h.chr fun x hx => by
  rw [List.mem_singleton.mp hx]
  exact hc⟩
theorem StrOk.cut {l : List Nat} (h : StrOk l) (i j : Option Int) : StrOk (cutL l i j) := h.sub (fun x hx => cutL_sub hx) (cutL_len _ _ _)
theorem spC_sub {c : Nat} : ∀ (l : List Nat) (p : List Nat), p ∈ spC c l → ∀ x ∈ p, x ∈ l
  | [], p, h, x, hx => by
    simp [spC] at h
    subst h
    cases hx
  | y :: ys, p, h, x, hx => by
    have ih := spC_sub (c := c) ys
    unfold spC at h
    split at h
    · rcases List.mem_cons.mp h with e | h
      · subst e
        cases hx
      · exact List.mem_cons_of_mem _ (ih p h x hx)
    · cases hs : spC c ys with
      | nil => exact absurd hs (spC_ne c ys)
      | cons a b =>
        rw [hs] at h ih
        rcases List.mem_cons.mp h with e | h
        · subst e
          rcases List.mem_cons.mp hx with e | hx
          · subst e
            exact List.mem_cons_self
          · exact List.mem_cons_of_mem _ (ih a List.mem_cons_self x hx)
        · exact List.mem_cons_of_mem _ (ih p (List.mem_cons_of_mem _ h) x hx)
theorem StrOk.split {c : Nat} (hc : c < 256) {l : List Nat} (h : StrOk l) : ∀ p ∈ splitS l [c], StrOk p := fun p hp => by
  rw [splitS_one hc] at hp
  exact h.sub (spC_sub l p hp) (spC_mem_len l p hp)
theorem chrOk_join {s : List Nat} (hs : chrOk s = true) : ∀ {ls : List (List Nat)}, (∀ l ∈ ls, chrOk l = true) → chrOk (TL.joinL s ls) = true
  | [], _ => rfl
  | [p], h => h p List.mem_cons_self
  | p :: q :: r, h => by
    show chrOk (p ++ (s ++ TL.joinL s (q :: r))) = true
    exact chrOk_app (h p List.mem_cons_self) (chrOk_app hs (chrOk_join hs fun l hl => h l (List.mem_cons_of_mem _ hl)))
theorem strOk_join {s : List Nat} {ls : List (List Nat)} (hs : StrOk s) (h : ∀ l ∈ ls, StrOk l) (hz : (ls.map (·.length)).sum + ls.length * s.length ≤ LMax) : StrOk (joinS s ls) := by
  rw [joinS_eq]
  exact ⟨Nat.le_trans (joinL_len s ls) hz, chrOk_join hs.chr fun l hl => (h l hl).chr⟩
end Sd

/-! Sd: data in slots; expressions come to data, statements to what they leave. -/
namespace Sd
open PySem PySem.Spec PyProof.Rows L2

/-! ### data -/
inductive D where
  | non | bl (b : Bool) | int (i : Int) | str (l : List Nat) | ty (n : String)
  | lst (xs : List D) | tup (xs : List D) | dct (kvs : List (Key × D)) | ins (C : Str) (fs : List (Str × D)) | scr (ns : List Int) | fn (n : Str) | exv (n : Str) (fs : List (Str × D))

/-- an exception object, told by its class and its dict -/
def exV (C : Addr) (d : Option Addr) (a : Addr) : HO := .ext fun h => ∃ (oe : Obj) (vs : Array Value), h.get? a = some oe ∧ Zc (.ref C) d oe ∧ oe.data = .fields vs
/-- .. whatever else is told of it -/
def ExvO (C : Addr) (d : Option Addr) (a : Addr) (u : HO) : Prop := ∃ φ : Heap → Prop, u = .ext φ ∧ ∀ h, φ h → ∃ (oe : Obj) (vs : Array Value), h.get? a = some oe ∧ Zc (.ref C) d oe ∧ oe.data = .fields vs
def KeyOk : Key → Prop
  | .inl _ => True
  | .inr s => ∃ l, s = S l ∧ StrOk l

mutual
inductive Is (K : PySem.W.Frag) (G : Hp) : V → D → Prop
  | non : Is K G .non .non
  | bl (b : Bool) : Is K G (.bl b) (.bl b)
  | int (i : Int) : Is K G (.int i) (.int i)
  | str (l : List Nat) : StrOk l → Is K G (.str (S l)) (.str l)
  | ty (n : String) : Is K G (.ty n) (.ty n)
  | lst {a : Addr} {xs : List V} {ds : List D} : G a = some (.lst xs) → IsAll K G xs ds → Is K G (.ref a) (.lst ds)
  | tup {a : Addr} {xs : List V} {ds : List D} : SqT K G a xs → IsAll K G xs ds → Is K G (.ref a) (.tup ds)
  | dct {a : Addr} {xs : List (Key × V)} {ds : List (Key × D)} : G a = some (.dK xs) → IsKV K G xs ds → Is K G (.ref a) (.dct ds)
  | ins {a C dx : Addr} {n : Str} {xs : List (Str × V)} {ds : List (Str × D)} : PySem.W.nsIn K mainGlobals n = some (some (.ref C)) → G a = some (.ins C dx xs) → IsFs K G xs ds → Is K G (.ref a) (.ins n ds)
  | scr {a : Addr} {ns : List Int} : SqL K G a (ns.map V.int) → Is K G (.ref a) (.scr ns)
  | fn {a : Addr} {n : Str} : PySem.W.nsIn K mainGlobals n = some (some (.ref a)) → Is K G (.ref a) (.fn n)
  | exv {a C : Addr} {d : Option Addr} {u : HO} {n : Str} {xs : List (Str × V)} {ds : List (Str × D)} : PySem.W.nsIn K mainGlobals n = some (some (.ref C)) → G a = some u → ExvO C d a u → (ds ≠ [] → ∃ p, d = some p ∧ G p = some (.xd xs)) → (ds = [] → d = none) → IsFs K G xs ds → Is K G (.ref a) (.exv n ds)
inductive IsAll (K : PySem.W.Frag) (G : Hp) : List V → List D → Prop
  | nil : IsAll K G [] []
  | cons {v : V} {vs : List V} {d : D} {ds : List D} : Is K G v d → IsAll K G vs ds → IsAll K G (v :: vs) (d :: ds)
inductive IsKV (K : PySem.W.Frag) (G : Hp) : List (Key × V) → List (Key × D) → Prop
  | nil : IsKV K G [] []
  | cons {k : Key} {v : V} {vs : List (Key × V)} {d : D} {ds : List (Key × D)} : KeyOk k → Is K G v d → IsKV K G vs ds → IsKV K G ((k, v) :: vs) ((k, d) :: ds)
inductive IsFs (K : PySem.W.Frag) (G : Hp) : List (Str × V) → List (Str × D) → Prop
  | nil : IsFs K G [] []
  | cons {k : Str} {v : V} {vs : List (Str × V)} {d : D} {ds : List (Str × D)} : Is K G v d → IsFs K G vs ds → IsFs K G ((k, v) :: vs) ((k, d) :: ds)
end

abbrev Ex := Evl.Ex
section
variable {K : PySem.W.Frag} {G G' : Hp}
mutual
theorem Is.mono (e : Ex G G') : ∀ (d : D) (v : V), Is K G v d → Is K G' v d
  | .non, _, h => by cases h; exact .non
  | .bl b, _, h => by cases h; exact .bl b
  | .int i, _, h => by cases h; exact .int i
  | .str l, _, h => by cases h with | str _ k => exact .str l k
  | .ty n, _, h => by cases h; exact .ty n
  | .lst ds, _, h => by cases h with | lst h1 h2 => exact .lst (e _ _ h1) (IsAll.mono e ds _ h2)
  | .tup ds, _, h => by cases h with | tup h1 h2 => exact .tup (Evl.ex_t e h1) (IsAll.mono e ds _ h2)
  | .dct ds, _, h => by cases h with | dct h1 h2 => exact .dct (e _ _ h1) (IsKV.mono e ds _ h2)
  | .ins C ds, _, h => by cases h with | ins h0 h1 h2 => exact .ins h0 (e _ _ h1) (IsFs.mono e ds _ h2)
  | .scr ns, _, h => by cases h with | scr h1 => exact .scr (Evl.ex_l e h1)
  | .fn n, _, h => by cases h with | fn h1 => exact .fn h1
  | .exv n ds, _, h => by cases h with | exv h0 h1 hu h2 h3 h4 => exact .exv h0 (e _ _ h1) hu (fun k => (h2 k).imp fun p h => ⟨h.1, e _ _ h.2⟩) h3 (IsFs.mono e ds _ h4)
theorem IsAll.mono (e : Ex G G') : ∀ (ds : List D) (vs : List V), IsAll K G vs ds → IsAll K G' vs ds
  | [], _, h => by cases h; exact .nil
  | d :: ds, _, h => by cases h with | cons h1 h2 => exact .cons (Is.mono e d _ h1) (IsAll.mono e ds _ h2)
theorem IsKV.mono (e : Ex G G') : ∀ (ds : List (Key × D)) (vs : List (Key × V)), IsKV K G vs ds → IsKV K G' vs ds
  | [], _, h => by cases h; exact .nil
  | (k, d) :: ds, _, h => by cases h with | cons h0 h1 h2 => exact .cons h0 (Is.mono e d _ h1) (IsKV.mono e ds _ h2)
theorem IsFs.mono (e : Ex G G') : ∀ (ds : List (Str × D)) (vs : List (Str × V)), IsFs K G vs ds → IsFs K G' vs ds
  | [], _, h => by cases h; exact .nil
  | (k, d) :: ds, _, h => by cases h with | cons h1 h2 => exact .cons (Is.mono e d _ h1) (IsFs.mono e ds _ h2)
end
theorem Is.up {v : V} {d : D} (h : Is K G v d) (e : Ex G G') : Is K G' v d := Is.mono e d v h
theorem IsAll.up {v : List V} {d : List D} (h : IsAll K G v d) (e : Ex G G') : IsAll K G' v d := IsAll.mono e d v h
theorem IsAll.len : ∀ {vs : List V} {ds : List D}, IsAll K G vs ds → vs.length = ds.length
  | _, _, .nil => rfl
  | _, _, .cons _ t => congrArg (· + 1) t.len
theorem IsAll.get : ∀ {vs : List V} {ds : List D} {i : Nat} {d : D}, IsAll K G vs ds → ds[i]? = some d → ∃ v, vs[i]? = some v ∧ Is K G v d
  | _, _, _, _, .nil, e => by simp at e
  | _, _, 0, _, .cons h _, e => by
    simp at e
    subst e
    exact ⟨_, rfl, h⟩
  | _, _, i + 1, d, .cons _ t, e => by
    obtain ⟨v, h1, h2⟩ := IsAll.get (i := i) (d := d) t (by simpa using e)
    exact ⟨v, by simpa using h1, h2⟩
theorem IsAll.getV : ∀ {vs : List V} {ds : List D} {i : Nat} {v : V}, IsAll K G vs ds → vs[i]? = some v → ∃ d, ds[i]? = some d ∧ Is K G v d
  | _, _, _, _, .nil, e => by simp at e
  | _, _, 0, _, .cons h _, e => by
    simp at e
    subst e
    exact ⟨_, rfl, h⟩
  | _, _, i + 1, d, .cons _ t, e => by
    obtain ⟨v, h1, h2⟩ := IsAll.getV (i := i) (v := d) t (by simpa using e)
    exact ⟨v, by simpa using h1, h2⟩
theorem IsAll.app : ∀ {vs ws : List V} {ds es : List D}, IsAll K G vs ds → IsAll K G ws es → IsAll K G (vs ++ ws) (ds ++ es)
  | _, _, _, _, .nil, h => h
  | _, _, _, _, .cons a t, h => .cons a (t.app h)
theorem IsAll.take : ∀ {vs : List V} {ds : List D} (n : Nat), IsAll K G vs ds → IsAll K G (vs.take n) (ds.take n)
  | _, _, 0, _ => .nil
  | _, _, _ + 1, .nil => .nil
  | _, _, n + 1, .cons a t => .cons a (t.take n)
theorem IsAll.drop : ∀ {vs : List V} {ds : List D} (n : Nat), IsAll K G vs ds → IsAll K G (vs.drop n) (ds.drop n)
  | _, _, 0, h => h
  | _, _, _ + 1, .nil => .nil
  | _, _, n + 1, .cons a t => t.drop n
theorem IsAll.set : ∀ {vs : List V} {ds : List D} (n : Nat) {v : V} {d : D}, IsAll K G vs ds → Is K G v d → IsAll K G (vs.set n v) (ds.set n d)
  | _, _, _, _, _, .nil, _ => .nil
  | _, _, 0, _, _, .cons a t, h => .cons h t
  | _, _, n + 1, _, _, .cons a t, h => .cons a (t.set n h)
theorem IsAll.rev : ∀ {vs : List V} {ds : List D}, IsAll K G vs ds → IsAll K G vs.reverse ds.reverse
  | _, _, .nil => .nil
  | _, _, .cons a t => by
    rw [List.reverse_cons, List.reverse_cons]
    exact t.rev.app (.cons a .nil)
theorem IsAll.strs : ∀ {vs : List V} {ls : List (List Nat)}, IsAll K G vs (ls.map D.str) → vs = ls.map (fun l => V.str (S l))
  | _, [], h => by cases h; rfl
  | _, l :: ls, h => by
    cases h with
    | cons h1 h2 =>
      cases h1
      rw [h2.strs]
      rfl
theorem IsAll.ints : ∀ {vs : List V} {ls : List Int}, IsAll K G vs (ls.map D.int) → vs = ls.map V.int
  | _, [], h => by cases h; rfl
  | _, l :: ls, h => by
    cases h with
    | cons h1 h2 =>
      cases h1
      rw [h2.ints]
      rfl
theorem IsAll.bls : ∀ {vs : List V} {ls : List Bool}, IsAll K G vs (ls.map D.bl) → vs = ls.map V.bl
  | _, [], h => by cases h; rfl
  | _, l :: ls, h => by
    cases h with
    | cons h1 h2 =>
      cases h1
      rw [h2.bls]
      rfl
theorem IsAll.ofStrs : ∀ (ls : List (List Nat)), (∀ l ∈ ls, StrOk l) → IsAll K G (ls.map (fun l => V.str (S l))) (ls.map D.str)
  | [], _ => .nil
  | l :: ls, h => .cons (.str l (h l List.mem_cons_self)) (IsAll.ofStrs ls fun x hx => h x (List.mem_cons_of_mem _ hx))
theorem Is.strOk {l : List Nat} {v : V} (h : Is K G v (.str l)) : StrOk l := by
  cases h with
  | str _ k => exact k
theorem IsAll.strOk : ∀ {vs : List V} {ls : List (List Nat)}, IsAll K G vs (ls.map D.str) → ∀ l ∈ ls, StrOk l
  | _, [], h => fun _ hx => nomatch hx
  | _, l :: ls, h => by
    cases h with
    | cons h1 h2 =>
      intro x hx
      rcases List.mem_cons.mp hx with e | e
      · rw [e]
        exact h1.strOk
      · exact h2.strOk x e
theorem IsAll.ofInts : ∀ (ls : List Int), IsAll K G (ls.map V.int) (ls.map D.int)
  | [] => .nil
  | l :: ls => .cons (.int l) (IsAll.ofInts ls)
end

/-! ### growth -/
structure Grow (G H G' H' : Hp) : Prop where
  g : Ex G G'
  h : Ex H H'
  s : Ex G' H'
  f : ∀ b o, H b = some o → G b = none → G' b = none
theorem Grow.refl {G H : Hp} (s : Ex G H) : Grow G H G H := ⟨Evl.Ex.refl _, Evl.Ex.refl _, s, fun _ _ _ h => h⟩
theorem Grow.trans {G H G1 H1 G2 H2 : Hp} (a : Grow G H G1 H1) (b : Grow G1 H1 G2 H2) : Grow G H G2 H2 :=
  ⟨a.g.trans b.g, a.h.trans b.h, b.s, fun x o h n => b.f x o (a.h x o h) (a.f x o h n)⟩
/-- a new object, frozen at once -/
theorem Grow.new {G H : Hp} {p : Addr} {o : HO} (s : Ex G H) (h : H p = none) : Grow G H (upd G p o) (upd H p o) := by
  have hg : G p = none := Evl.fresh_back s h
  refine ⟨Evl.Ex.new hg, Evl.Ex.new h, fun b u e => ?_, fun b u e n => ?_⟩
  · by_cases hb : b = p
    · subst hb
      rw [upd_same] at e ⊢
      exact e
    · rw [upd_ne hb] at e ⊢
      exact s b u e
  · rw [upd_ne (ne_of_none e h)]
    exact n
/-- a new object, not frozen -/
theorem Grow.lay {G H : Hp} {p : Addr} {o : HO} (s : Ex G H) (h : H p = none) : Grow G H G (upd H p o) :=
  ⟨Evl.Ex.refl _, Evl.Ex.new h, s.trans (Evl.Ex.new h), fun _ _ _ n => n⟩
/-- a laid object is frozen -/
theorem Grow.frz {G H G' H' : Hp} {p : Addr} {o : HO} (a : Grow G H G' H') (h : H p = none) (hp : H' p = some o) (n : G' p = none) : Grow G H (upd G' p o) H' := by
  refine ⟨a.g.trans (Evl.Ex.new n), a.h, fun b u e => ?_, fun b u e m => ?_⟩
  · by_cases hb : b = p
    · subst hb
      rw [upd_same] at e
      rw [hp]
      exact e
    · rw [upd_ne hb] at e
      exact a.s b u e
  · rw [upd_ne (ne_of_none e h)]
    exact a.f b u e m

/-! ### the slots -/
inductive OO where
  | lst (xs : List D) | dct (kvs : List (Key × D)) | lsv (vs : List V) (xs : List D) | ins (n : Str) (fs : List (Str × D))
inductive B where
  | un | d (x : D) | own (o : OO) (pa : Option Addr := none) | bor (xs : List D) | exc (a : Addr) (d : Option Addr) (fs : List (Str × D)) | tre (kvs : List (List Nat × List D))
/-- an exception that is held: where it is, and its fields -/
def ExS (K : PySem.W.Frag) (G : Hp) (v : V) (a : Addr) (d : Option Addr) (fs : List (Str × D)) : Prop := v = .ref a ∧ (fs ≠ [] → ∃ p vs, d = some p ∧ G p = some (.xd vs) ∧ IsFs K G vs fs) ∧ (fs = [] → d = none)
theorem ExS.up {K : PySem.W.Frag} {G G' : Hp} {v : V} {a : Addr} {d : Option Addr} {fs : List (Str × D)} (h : ExS K G v a d fs) (e : Ex G G') : ExS K G' v a d fs :=
  ⟨h.1, fun n => let ⟨p, vs, h1, h2, h3⟩ := h.2.1 n; ⟨p, vs, h1, e _ _ h2, IsFs.mono e _ _ h3⟩, h.2.2⟩
def OwnIs (K : PySem.W.Frag) (G : Hp) : OO → HO → Prop
  | .lst ds, .lst vs => IsAll K G vs ds
  | .dct ds, .dK kvs => IsKV K G kvs ds
  | .lsv ws ds, .lst vs => vs = ws ∧ IsAll K G vs ds
  | .ins n ds, .ins C dx xs => PySem.W.nsIn K mainGlobals n = some (some (.ref C)) ∧ IsFs K G xs ds
  | _, _ => False
theorem OwnIs.up {K : PySem.W.Frag} {G G' : Hp} {o : OO} {u : HO} (h : OwnIs K G o u) (e : Ex G G') : OwnIs K G' o u := by
  cases o with
  | lst ds =>
    cases u with
    | lst vs => exact IsAll.up (show IsAll K G vs ds from h) e
    | _ => exact h.elim
  | dct ds =>
    cases u with
    | dK vs => exact IsKV.mono e ds vs h
    | _ => exact h.elim
  | lsv ws ds =>
    cases u with
    | lst vs =>
      have h : vs = ws ∧ IsAll K G vs ds := h
      exact ⟨h.1, h.2.up e⟩
    | _ => exact h.elim
  | ins n ds =>
    cases u with
    | ins C dx xs =>
      have h : PySem.W.nsIn K mainGlobals n = some (some (.ref C)) ∧ IsFs K G xs ds := h
      exact ⟨h.1, IsFs.mono e ds xs h.2⟩
    | _ => exact h.elim
theorem OwnIs.lst {K : PySem.W.Frag} {G : Hp} {ds : List D} {u : HO} (h : OwnIs K G (.lst ds) u) : ∃ vs, u = .lst vs ∧ IsAll K G vs ds := by
  cases u with
  | lst vs => exact ⟨vs, rfl, h⟩
  | _ => exact h.elim

/-! ### a dict of lists, all of them one's own -/
inductive Twigs (K : PySem.W.Frag) (F G H : Hp) : List Addr → List (List Nat × List D) → Prop
  | nil : Twigs K F G H [] []
  | cons {q : Addr} {vs : List V} {k : List Nat} {xs : List D} {qs : List Addr} {kvs : List (List Nat × List D)} : H q = some (.lst vs) → G q = none → F q = none → StrOk k → IsAll K G vs xs → Twigs K F G H qs kvs → Twigs K F G H (q :: qs) ((k, xs) :: kvs)
def twK : List Addr → List (List Nat × List D) → List (Key × V)
  | q :: qs, z :: kvs => (.inr (S z.1), .ref q) :: twK qs kvs
  | _, _ => []
theorem Twigs.uniq {K : PySem.W.Frag} {F G H F' G' H' : Hp} : ∀ {qs qs' : List Addr} {kvs : List (List Nat × List D)}, Twigs K F G H qs kvs → Twigs K F' G' H' qs' kvs → twK qs kvs = twK qs' kvs → qs = qs'
  | _, _, _, .nil, .nil, _ => rfl
  | _, _, _, .cons _ _ _ _ _ t, .cons _ _ _ _ _ t', e => by
    unfold twK at e
    injection e with e1 e2
    injection e1 with _ e3
    injection e3 with e4
    rw [e4, t.uniq t' e2]
theorem Twigs.map {K : PySem.W.Frag} {F G H F' G' H' : Hp} (hg : Ex G G') : ∀ {qs : List Addr} {kvs : List (List Nat × List D)}, Twigs K F G H qs kvs → (∀ q ∈ qs, ∀ vs, H q = some (.lst vs) → G q = none → F q = none → H' q = some (.lst vs) ∧ G' q = none ∧ F' q = none) → Twigs K F' G' H' qs kvs
  | _, _, .nil, _ => .nil
  | _, _, .cons h1 h2 h3 h4 h5 t, f =>
    have ⟨a, b, c⟩ := f _ List.mem_cons_self _ h1 h2 h3
    .cons a b c h4 (h5.up hg) (t.map hg fun q hq => f q (List.mem_cons_of_mem _ hq))
structure TreAt (K : PySem.W.Frag) (F : Hp) (σ : L2.St) (G H : Hp) (i : Nat) (kvs : List (List Nat × List D)) (p : Addr) (qs : List Addr) : Prop where
  sl : σ[i]? = some (some (.ref p))
  hp : H p = some (.dK (twK qs kvs))
  gp : G p = none
  fp : F p = none
  tw : Twigs K F G H qs kvs
  nd : (p :: qs).Nodup
section
variable {K : PySem.W.Frag} {F F' G H G' H' : Hp} {Γ Γ' : List B} {σ σ' : L2.St}
theorem TreAt.uniq {i : Nat} {kvs : List (List Nat × List D)} {p p' : Addr} {qs qs' : List Addr} (a : TreAt K F σ G H i kvs p qs) (b : TreAt K F σ G H i kvs p' qs') : p = p' ∧ qs = qs' := by
  have e := a.sl.symm.trans b.sl
  injection e with e
  injection e with e
  injection e with e
  subst e
  have e := a.hp.symm.trans b.hp
  injection e with e
  injection e with e
  exact ⟨rfl, a.tw.uniq b.tw e⟩
theorem TreAt.cg {i : Nat} {kvs : List (List Nat × List D)} {p : Addr} {qs : List Addr} (a : TreAt K F σ G H i kvs p qs) (e : σ'[i]? = σ[i]?) : TreAt K F σ' G H i kvs p qs := ⟨e.trans a.sl, a.hp, a.gp, a.fp, a.tw, a.nd⟩
theorem TreAt.map {i : Nat} {kvs : List (List Nat × List D)} {p : Addr} {qs : List Addr} (a : TreAt K F σ G H i kvs p qs) (hg : Ex G G') (f : ∀ q ∈ p :: qs, ∀ u, H q = some u → G q = none → F q = none → H' q = some u ∧ G' q = none ∧ F' q = none) : TreAt K F' σ G' H' i kvs p qs := by
  obtain ⟨h1, h2, h3⟩ := f p List.mem_cons_self _ a.hp a.gp a.fp
  exact ⟨a.sl, h1, h2, h3, a.tw.map hg fun q hq vs => f q (List.mem_cons_of_mem _ hq) _, a.nd⟩
theorem TreAt.grow {i : Nat} {kvs : List (List Nat × List D)} {p : Addr} {qs : List Addr} (a : TreAt K F σ G H i kvs p qs) (g : Grow G H G' H') : TreAt K F σ G' H' i kvs p qs := a.map g.g fun q _ u h1 h2 h3 => ⟨g.h _ _ h1, g.f _ _ h1 h2, h3⟩
theorem TreAt.updH {i : Nat} {kvs : List (List Nat × List D)} {p : Addr} {qs : List Addr} {q : Addr} {u : HO} (a : TreAt K F σ G H i kvs p qs) (n : q ∉ p :: qs) : TreAt K F σ G (upd H q u) i kvs p qs :=
  a.map (Evl.Ex.refl _) fun b hb w h1 h2 h3 => ⟨by
    rw [upd_ne fun z => n (by rw [← z]; exact hb)]
    exact h1, h2, h3⟩
theorem TreAt.updG {i : Nat} {kvs : List (List Nat × List D)} {p : Addr} {qs : List Addr} {q : Addr} {u : HO} (a : TreAt K F σ G H i kvs p qs) (nq : G q = none) (n : q ∉ p :: qs) : TreAt K F σ (upd G q u) H i kvs p qs :=
  a.map (Evl.Ex.new nq) fun b hb w h1 h2 h3 => ⟨h1, by
    rw [upd_ne fun z => n (by rw [← z]; exact hb)]
    exact h2, h3⟩
structure TreF (K : PySem.W.Frag) (F : Hp) (Γ : List B) (σ : L2.St) (G H : Hp) : Prop where
  ex : ∀ (i : Nat) (x : List (List Nat × List D)), Γ[i]? = some (.tre x) → ∃ p qs, TreAt K F σ G H i x p qs
  sep : ∀ (i : Nat) (x : List (List Nat × List D)) (p : Addr) (qs : List Addr), Γ[i]? = some (.tre x) → TreAt K F σ G H i x p qs → ∀ (j : Nat) (o : OO) (pa : Option Addr) (q : Addr), Γ[j]? = some (.own o pa) → σ[j]? = some (some (.ref q)) → q ∉ p :: qs
  one : ∀ (i j : Nat) (x y : List (List Nat × List D)), Γ[i]? = some (.tre x) → Γ[j]? = some (.tre y) → i = j
theorem TreF.carry (t : TreF K F Γ σ G H) (hT : ∀ (j : Nat) (x : List (List Nat × List D)), Γ'[j]? = some (.tre x) → Γ[j]? = some (.tre x) ∧ σ'[j]? = σ[j]?)
    (hH : ∀ (i : Nat) (x : List (List Nat × List D)) (p : Addr) (qs : List Addr), Γ[i]? = some (.tre x) → TreAt K F σ G H i x p qs → TreAt K F' σ G' H' i x p qs)
    (hO : ∀ (i : Nat) (x : List (List Nat × List D)) (p : Addr) (qs : List Addr), Γ[i]? = some (.tre x) → TreAt K F σ G H i x p qs → ∀ (j : Nat) (o : OO) (pa : Option Addr) (q : Addr), Γ'[j]? = some (.own o pa) → σ'[j]? = some (some (.ref q)) → q ∉ p :: qs) : TreF K F' Γ' σ' G' H' := by
  refine ⟨fun i x e => ?_, fun i x p qs e a j o pa q e1 e2 => ?_, fun i j x y e1 e2 => t.one i j x y (hT i x e1).1 (hT j y e2).1⟩
  · obtain ⟨h1, h2⟩ := hT i x e
    obtain ⟨p, qs, a⟩ := t.ex i x h1
    exact ⟨p, qs, (hH i x p qs h1 a).cg h2⟩
  · obtain ⟨h1, h2⟩ := hT i x e
    obtain ⟨p', qs', a'⟩ := t.ex i x h1
    obtain ⟨rfl, rfl⟩ := a.uniq ((hH i x p' qs' h1 a').cg h2)
    exact hO i x p qs h1 a' j o pa q e1 e2
theorem TreF.noT (h : ∀ (i : Nat) (x : List (List Nat × List D)), Γ[i]? ≠ some (.tre x)) : TreF K F Γ σ G H := ⟨fun i x e => absurd e (h i x), fun i x _ _ e => absurd e (h i x), fun i _ x _ e => absurd e (h i x)⟩
theorem TreF.grow (t : TreF K F Γ σ G H) (g : Grow G H G' H') : TreF K F Γ σ G' H' := t.carry (fun _ _ e => ⟨e, rfl⟩) (fun _ _ _ _ _ a => a.grow g) (fun i x p qs e a => t.sep i x p qs e a)
theorem TreF.sub (t : TreF K F Γ σ G H) (hT : ∀ (j : Nat) (x : List (List Nat × List D)), Γ'[j]? = some (.tre x) → Γ[j]? = some (.tre x) ∧ σ'[j]? = σ[j]?) (hO : ∀ (j : Nat) (o : OO) (pa : Option Addr), Γ'[j]? = some (.own o pa) → (∃ o' pa', Γ[j]? = some (.own o' pa')) ∧ σ'[j]? = σ[j]?) : TreF K F Γ' σ' G H :=
  t.carry hT (fun _ _ _ _ _ a => a) fun i x p qs e a j o pa q e1 e2 => by
    obtain ⟨⟨o', pa', h1⟩, h2⟩ := hO j o pa e1
    exact t.sep i x p qs e a j o' pa' q h1 (h2 ▸ e2)
theorem set_get {i j : Nat} {b c : B} (e : (Γ.set i b)[j]? = some c) : (i = j ∧ c = b) ∨ (i ≠ j ∧ Γ[j]? = some c) := by
  by_cases h : i = j
  · subst h
    have hl : i < Γ.length := by
      have := (List.getElem?_eq_some_iff.mp e).1
      rw [List.length_set] at this
      exact this
    rw [List.getElem?_set_self hl] at e
    cases e
    exact .inl ⟨rfl, rfl⟩
  · rw [List.getElem?_set_ne h] at e
    exact .inr ⟨h, e⟩
/-- a slot is set, not to a tree -/
theorem TreF.set (t : TreF K F Γ σ G H) (i : Nat) (b : B) (y : Option V) (nb : ∀ x, b ≠ .tre x) (hb : ∀ o pa, b = .own o pa → ∀ q, y = some (.ref q) → ∀ (j : Nat) (x : List (List Nat × List D)) (p : Addr) (qs : List Addr), j ≠ i → Γ[j]? = some (.tre x) → TreAt K F σ G H j x p qs → q ∉ p :: qs) (hi : ∀ x, Γ[i]? ≠ some (.tre x) ∨ (∀ o pa, b ≠ .own o pa)) : TreF K F (Γ.set i b) (σ.set i y) G H :=
  t.carry (fun j x e => by
    rcases set_get e with ⟨_, h⟩ | ⟨h, e⟩
    · exact absurd h.symm (nb x)
    · exact ⟨e, List.getElem?_set_ne h⟩) (fun _ _ _ _ _ a => a) fun j x p qs e a k o pa q e1 e2 => by
    rcases set_get e1 with ⟨hk, h⟩ | ⟨h, e1⟩
    · subst hk
      have hl : i < σ.length := by
        have := (List.getElem?_eq_some_iff.mp e2).1
        rw [List.length_set] at this
        exact this
      rw [List.getElem?_set_self hl] at e2
      refine hb o pa h.symm q (Option.some.inj e2) j x p qs (fun z => ?_) e a
      subst z
      rcases hi x with n | n
      · exact n e
      · exact n o pa h.symm
    · rw [List.getElem?_set_ne h] at e2
      exact t.sep j x p qs e a k o pa q e1 e2
/-- a slot that held a thing of one's own is told otherwise -/
theorem TreF.reown (t : TreF K F Γ σ G H) {i : Nat} {o : OO} {pa : Option Addr} (e : Γ[i]? = some (.own o pa)) (b : B) (nb : ∀ x, b ≠ .tre x) (hH : ∀ (j : Nat) (x : List (List Nat × List D)) (p : Addr) (qs : List Addr), Γ[j]? = some (.tre x) → TreAt K F σ G H j x p qs → TreAt K F' σ G' H' j x p qs) : TreF K F' (Γ.set i b) σ G' H' :=
  t.carry (fun j x e => by
    rcases set_get e with ⟨_, h⟩ | ⟨h, e⟩
    · exact absurd h.symm (nb x)
    · exact ⟨e, rfl⟩) hH fun j x p qs ej a k o' pa' q e1 e2 => by
    rcases set_get e1 with ⟨hk, _⟩ | ⟨_, e1⟩
    · subst hk
      exact t.sep j x p qs ej a i o pa q e e2
    · exact t.sep j x p qs ej a k o' pa' q e1 e2
end

structure Stt (K : PySem.W.Frag) (F : Hp) (Γ : List B) (σ : L2.St) (G H : Hp) : Prop where
  len : σ.length = Γ.length
  sub : Ex G H
  dat : ∀ (i : Nat) (x : D), Γ[i]? = some (B.d x) → ∃ v, σ[i]? = some (some v) ∧ Is K G v x
  own : ∀ (i : Nat) (o : OO) (pa : Option Addr), Γ[i]? = some (B.own o pa) → ∃ p u, σ[i]? = some (some (.ref p)) ∧ H p = some u ∧ G p = none ∧ F p = none ∧ OwnIs K G o u ∧ ∀ a, pa = some a → a = p
  sep : ∀ (i j : Nat) (p : Addr) (o o' : OO) (pa pa' : Option Addr), Γ[i]? = some (B.own o pa) → Γ[j]? = some (B.own o' pa') → σ[i]? = some (some (.ref p)) → σ[j]? = some (some (.ref p)) → i = j
  bor : ∀ (i : Nat) (xs : List D), Γ[i]? = some (B.bor xs) → ∃ p vs, σ[i]? = some (some (.ref p)) ∧ H p = some (.lst vs) ∧ F p = some (.lst vs) ∧ IsAll K G vs xs
  exc : ∀ (i : Nat) (a : Addr) (d : Option Addr) (fs : List (Str × D)), Γ[i]? = some (B.exc a d fs) → ∃ v, σ[i]? = some (some v) ∧ ExS K G v a d fs
  tre : TreF K F Γ σ G H
theorem Stt.grow {K : PySem.W.Frag} {F : Hp} {Γ : List B} {σ : L2.St} {G H G' H' : Hp} (s : Stt K F Γ σ G H) (g : Grow G H G' H') : Stt K F Γ σ G' H' :=
  ⟨s.len, g.s, fun i x h => let ⟨v, h1, h2⟩ := s.dat i x h; ⟨v, h1, h2.up g.g⟩,
   fun i o pa h => let ⟨p, u, h1, h2, h3, h5, h4, h6⟩ := s.own i o pa h; ⟨p, u, h1, g.h p u h2, g.f p u h2 h3, h5, h4.up g.g, h6⟩, s.sep,
   fun i xs h => let ⟨p, vs, h1, h2, h3, h4⟩ := s.bor i xs h; ⟨p, vs, h1, g.h p _ h2, h3, h4.up g.g⟩,
   fun i a d fs h => let ⟨v, h1, h2⟩ := s.exc i a d fs h; ⟨v, h1, h2.up g.g⟩, s.tre.grow g⟩
/-- a slot gets data -/
theorem Stt.set {K : PySem.W.Frag} {F : Hp} {Γ : List B} {σ : L2.St} {G H : Hp} {v : V} {x : D} (s : Stt K F Γ σ G H) (i : Nat) (h : Is K G v x) : Stt K F (Γ.set i (.d x)) (σ.set i (some v)) G H := by
  refine ⟨by rw [List.length_set, List.length_set]; exact s.len, s.sub, fun j y e => ?_, fun j o pa e => ?_, fun j k p o o' pa pa' e1 e2 e3 e4 => ?_, fun j xs e => ?_, fun j xa xd xf e => ?_, s.tre.set i _ _ (fun _ e => nomatch e) (fun _ _ e => nomatch e) fun _ => .inr fun _ _ e => nomatch e⟩
  · by_cases hj : i = j
    · subst hj
      have hl : i < Γ.length := by
        have := (List.getElem?_eq_some_iff.mp e).1
        rw [List.length_set] at this
        exact this
      rw [List.getElem?_set_self hl] at e
      cases e
      exact ⟨v, List.getElem?_set_self (by rw [s.len]; exact hl), h⟩
    · rw [List.getElem?_set_ne hj] at e ⊢
      exact s.dat j y e
  · have hj : i ≠ j := fun z => by
      subst z
      have hl : i < Γ.length := by
        have := (List.getElem?_eq_some_iff.mp e).1
        rw [List.length_set] at this
        exact this
      rw [List.getElem?_set_self hl] at e
      cases e
    rw [List.getElem?_set_ne hj] at e ⊢
    exact s.own j o pa e
  · have ne : ∀ {j : Nat} {o : OO} {pa : Option Addr}, (Γ.set i (B.d x))[j]? = some (B.own o pa) → i ≠ j := fun {j o pa} e z => by
      subst z
      have hl : i < Γ.length := by
        have := (List.getElem?_eq_some_iff.mp e).1
        rw [List.length_set] at this
        exact this
      rw [List.getElem?_set_self hl] at e
      cases e
    have h1 := ne e1
    have h2 := ne e2
    rw [List.getElem?_set_ne h1] at e1 e3
    rw [List.getElem?_set_ne h2] at e2 e4
    exact s.sep j k p o o' pa pa' e1 e2 e3 e4
  · have hj : i ≠ j := fun z => by
      subst z
      have hl : i < Γ.length := by
        have := (List.getElem?_eq_some_iff.mp e).1
        rw [List.length_set] at this
        exact this
      rw [List.getElem?_set_self hl] at e
      cases e
    rw [List.getElem?_set_ne hj] at e ⊢
    exact s.bor j xs e
  · have hj : i ≠ j := fun z => by
      subst z
      have hl : i < Γ.length := by
        have := (List.getElem?_eq_some_iff.mp e).1
        rw [List.length_set] at this
        exact this
      rw [List.getElem?_set_self hl] at e
      cases e
    rw [List.getElem?_set_ne hj] at e ⊢
    exact s.exc j xa xd xf e
/-- a slot is forgotten -/
theorem Stt.unset {K : PySem.W.Frag} {F : Hp} {Γ : List B} {σ : L2.St} {G H : Hp} (s : Stt K F Γ σ G H) (i : Nat) (y : Option V) : Stt K F (Γ.set i .un) (σ.set i y) G H := by
  have ne : ∀ {j : Nat} {b : B}, b ≠ .un → (Γ.set i B.un)[j]? = some b → i ≠ j := fun {j b} hb e z => by
    subst z
    have hl : i < Γ.length := by
      have := (List.getElem?_eq_some_iff.mp e).1
      rw [List.length_set] at this
      exact this
    rw [List.getElem?_set_self hl] at e
    cases e
    exact hb rfl
  refine ⟨by rw [List.length_set, List.length_set]; exact s.len, s.sub, fun j y e => ?_, fun j o pa e => ?_, fun j k p o o' pa pa' e1 e2 e3 e4 => ?_, fun j xs e => ?_, fun j xa xd xf e => ?_, s.tre.set i _ _ (fun _ e => nomatch e) (fun _ _ e => nomatch e) fun _ => .inr fun _ _ e => nomatch e⟩
  · have h1 := ne (by simp) e
    rw [List.getElem?_set_ne h1] at e ⊢
    exact s.dat j y e
  · have h1 := ne (by simp) e
    rw [List.getElem?_set_ne h1] at e ⊢
    exact s.own j o pa e
  · have h1 := ne (by simp) e1
    have h2 := ne (by simp) e2
    rw [List.getElem?_set_ne h1] at e1 e3
    rw [List.getElem?_set_ne h2] at e2 e4
    exact s.sep j k p o o' pa pa' e1 e2 e3 e4
  · have h1 := ne (by simp) e
    rw [List.getElem?_set_ne h1] at e ⊢
    exact s.bor j xs e
  · have h1 := ne (by simp) e
    rw [List.getElem?_set_ne h1] at e ⊢
    exact s.exc j xa xd xf e
/-- a slot gets a thing of its own -/
theorem Stt.setO {K : PySem.W.Frag} {F : Hp} {Γ : List B} {σ : L2.St} {G H : Hp} {p : Addr} {u : HO} {o : OO} (s : Stt K F Γ σ G H) (i : Nat) (hp : H p = some u) (n : G p = none) (f : F p = none) (h : OwnIs K G o u)
    (d : ∀ (j : Nat) (o' : OO) (pa : Option Addr), j ≠ i → Γ[j]? = some (B.own o' pa) → σ[j]? ≠ some (some (V.ref p))) (dt : ∀ (j : Nat) (x : List (List Nat × List D)) (p' : Addr) (qs : List Addr), j ≠ i → Γ[j]? = some (.tre x) → TreAt K F σ G H j x p' qs → p ∉ p' :: qs) : Stt K F (Γ.set i (.own o)) (σ.set i (some (.ref p))) G H := by
  have bd : ∀ {j : Nat} {b : B}, i = j → (Γ.set i (B.own o))[j]? = some b → b = .own o ∧ i < Γ.length := fun {j b} z e => by
    subst z
    have hl : i < Γ.length := by
      have := (List.getElem?_eq_some_iff.mp e).1
      rw [List.length_set] at this
      exact this
    rw [List.getElem?_set_self hl] at e
    cases e
    exact ⟨rfl, hl⟩
  refine ⟨by rw [List.length_set, List.length_set]; exact s.len, s.sub, fun j y e => ?_, fun j o1 pa e => ?_, fun j k q o1 o2 pa pa' e1 e2 e3 e4 => ?_, fun j xs e => ?_, fun j xa xd xf e => ?_, ?_⟩
  · by_cases hj : i = j
    · cases (bd hj e).1
    · rw [List.getElem?_set_ne hj] at e ⊢
      exact s.dat j y e
  · by_cases hj : i = j
    · obtain ⟨z, hl⟩ := bd hj e
      cases z
      subst hj
      exact ⟨p, u, List.getElem?_set_self (by rw [s.len]; exact hl), hp, n, f, h, fun a z => nomatch z⟩
    · rw [List.getElem?_set_ne hj] at e ⊢
      exact s.own j o1 pa e
  · by_cases hj : i = j
    · by_cases hk : i = k
      · exact hj.symm.trans hk
      · obtain ⟨_, hl⟩ := bd hj e1
        subst hj
        rw [List.getElem?_set_ne hk] at e2 e4
        rw [List.getElem?_set_self (by rw [s.len]; exact hl)] at e3
        cases e3
        exact absurd e4 (d k o2 pa' (Ne.symm hk) e2)
    · by_cases hk : i = k
      · obtain ⟨_, hl⟩ := bd hk e2
        subst hk
        rw [List.getElem?_set_ne hj] at e1 e3
        rw [List.getElem?_set_self (by rw [s.len]; exact hl)] at e4
        cases e4
        exact absurd e3 (d j o1 pa (Ne.symm hj) e1)
      · rw [List.getElem?_set_ne hj] at e1 e3
        rw [List.getElem?_set_ne hk] at e2 e4
        exact s.sep j k q o1 o2 pa pa' e1 e2 e3 e4
  · by_cases hj : i = j
    · cases (bd hj e).1
    · rw [List.getElem?_set_ne hj] at e ⊢
      exact s.bor j xs e
  · by_cases hj : i = j
    · cases (bd hj e).1
    · rw [List.getElem?_set_ne hj] at e ⊢
      exact s.exc j xa xd xf e
  · by_cases hT : ∃ x, Γ[i]? = some (.tre x)
    · obtain ⟨x, hx⟩ := hT
      refine .noT fun j y e => ?_
      rcases set_get e with ⟨_, h⟩ | ⟨h, e⟩
      · cases h
      · exact h (s.tre.one i j x y hx e)
    · exact s.tre.set i _ _ (fun _ e => nomatch e) (fun _ _ _ q e j x p' qs hj h1 h2 => by
        cases e
        exact dt j x p' qs hj h1 h2) fun x => .inl fun e => hT ⟨x, e⟩
/-- a new thing's address is nobody's -/
theorem Stt.fresh {K : PySem.W.Frag} {F : Hp} {Γ : List B} {σ : L2.St} {G H : Hp} {p : Addr} (s : Stt K F Γ σ G H) (n : H p = none) {j : Nat} {o : OO} {pa : Option Addr} (e : Γ[j]? = some (B.own o pa)) : σ[j]? ≠ some (some (V.ref p)) := fun z => by
  obtain ⟨q, u, h1, h2, _⟩ := s.own j o pa e
  rw [h1] at z
  cases z
  rw [n] at h2
  cases h2
theorem Twigs.here {K : PySem.W.Frag} {F G H : Hp} : ∀ {qs : List Addr} {kvs : List (List Nat × List D)}, Twigs K F G H qs kvs → ∀ q ∈ qs, ∃ vs, H q = some (.lst vs)
  | _, _, .nil, _, h => nomatch h
  | _, _, .cons h1 _ _ _ _ t, q, h => by
    rcases List.mem_cons.mp h with e | e
    · rw [e]
      exact ⟨_, h1⟩
    · exact t.here q e
theorem TreAt.fresh {K : PySem.W.Frag} {F : Hp} {σ : L2.St} {G H : Hp} {i : Nat} {x : List (List Nat × List D)} {p : Addr} {qs : List Addr} (a : TreAt K F σ G H i x p qs) {q : Addr} (n : H q = none) : q ∉ p :: qs := fun h => by
  rcases List.mem_cons.mp h with e | e
  · rw [e, a.hp] at n
    cases n
  · obtain ⟨u, hu⟩ := a.tw.here q e
    rw [hu] at n
    cases n
theorem TreAt.ne {K : PySem.W.Frag} {F : Hp} {σ : L2.St} {G H : Hp} {i : Nat} {x : List (List Nat × List D)} {p : Addr} {qs : List Addr} (a : TreAt K F σ G H i x p qs) {q : Addr} {u : HO} (n : H q = some u) (n1 : ∀ vs, u ≠ .lst vs) (n2 : ∀ vs, u ≠ .dK vs) : q ∉ p :: qs := fun h => by
  rcases List.mem_cons.mp h with e | e
  · rw [e, a.hp] at n
    cases n
    exact n2 _ rfl
  · obtain ⟨vs, hu⟩ := a.tw.here q e
    rw [hu] at n
    cases n
    exact n1 _ rfl
/-- where a thing was not yet there, it is of no tree -/
theorem TreF.fresh {K : PySem.W.Frag} {F : Hp} {Γ : List B} {σ : L2.St} {G H G' H' : Hp} (t : TreF K F Γ σ G H) (g : Grow G H G' H') {q : Addr} (n : H q = none) {i : Nat} {x : List (List Nat × List D)} {p : Addr} {qs : List Addr} (e : Γ[i]? = some (.tre x)) (a : TreAt K F σ G' H' i x p qs) : q ∉ p :: qs := by
  obtain ⟨p', qs', a'⟩ := t.ex i x e
  obtain ⟨rfl, rfl⟩ := a.uniq (a'.grow g)
  exact a'.fresh n
/-- one's own thing in a slot changes -/
theorem Stt.mut {K : PySem.W.Frag} {F : Hp} {Γ : List B} {σ : L2.St} {G H : Hp} {p : Addr} {u : HO} {o o' : OO} {pa : Option Addr} (s : Stt K F Γ σ G H) {i : Nat} (e : Γ[i]? = some (B.own o pa)) (hs : σ[i]? = some (some (V.ref p))) (h : OwnIs K G o' u) :
    Stt K F (Γ.set i (.own o' pa)) σ G (upd H p u) := by
  obtain ⟨q, w, h1, h2, h3, h5, _, h6⟩ := s.own i o pa e
  rw [hs] at h1
  cases h1
  have hl : i < Γ.length := (List.getElem?_eq_some_iff.mp e).1
  refine ⟨by rw [List.length_set]; exact s.len, fun b u' e' => ?_, fun j y e' => ?_, fun j o1 pb e' => ?_, fun j k q o1 o2 pb pc e1 e2 e3 e4 => ?_, fun j xs e' => ?_, fun j xa xd xf e' => ?_, s.tre.reown e _ (fun _ e => nomatch e) fun j x p' qs ej a => a.updH (s.tre.sep j x p' qs ej a i o pa p e hs)⟩
  · rw [upd_ne (ne_of_none e' h3)]
    exact s.sub b u' e'
  · have hj : i ≠ j := fun z => by
      subst z
      rw [List.getElem?_set_self hl] at e'
      cases e'
    rw [List.getElem?_set_ne hj] at e'
    exact s.dat j y e'
  · by_cases hj : i = j
    · subst hj
      rw [List.getElem?_set_self hl] at e'
      cases e'
      exact ⟨p, u, hs, upd_same, h3, h5, h, h6⟩
    · rw [List.getElem?_set_ne hj] at e'
      obtain ⟨q, w', k1, k2, k3, k4, k5, k6⟩ := s.own j o1 pb e'
      have hne : q ≠ p := fun z => by
        subst z
        exact hj (s.sep i j q o o1 pa pb e e' hs k1)
      exact ⟨q, w', k1, by rw [upd_ne hne]; exact k2, k3, k4, k5, k6⟩
  · have back : ∀ {j : Nat} {o1 : OO} {pb : Option Addr}, (Γ.set i (B.own o' pa))[j]? = some (B.own o1 pb) → ∃ o2 pc, Γ[j]? = some (B.own o2 pc) := fun {j o1 pb} e' => by
      by_cases hj : i = j
      · subst hj
        exact ⟨o, pa, e⟩
      · rw [List.getElem?_set_ne hj] at e'
        exact ⟨o1, pb, e'⟩
    obtain ⟨o3, p3, e5⟩ := back e1
    obtain ⟨o4, p4, e6⟩ := back e2
    exact s.sep j k q o3 o4 p3 p4 e5 e6 e3 e4
  · have hj : i ≠ j := fun z => by
      subst z
      rw [List.getElem?_set_self hl] at e'
      cases e'
    rw [List.getElem?_set_ne hj] at e'
    obtain ⟨q, vs, k1, k2, k3, k4⟩ := s.bor j xs e'
    have hne : q ≠ p := fun z => by
      subst z
      rw [h5] at k3
      cases k3
    exact ⟨q, vs, k1, by rw [upd_ne hne]; exact k2, k3, k4⟩
  · have hj : i ≠ j := fun z => by
      subst z
      rw [List.getElem?_set_self hl] at e'
      cases e'
    rw [List.getElem?_set_ne hj] at e'
    exact s.exc j xa xd xf e'
/-- one's own list stays from now on -/
theorem Stt.frzL {K : PySem.W.Frag} {F : Hp} {Γ : List B} {σ : L2.St} {G H : Hp} {ds : List D} (s : Stt K F Γ σ G H) {i : Nat} (e : Γ[i]? = some (B.own (.lst ds))) :
    ∃ p vs, σ[i]? = some (some (V.ref p)) ∧ H p = some (.lst vs) ∧ G p = none ∧ F p = none ∧ Stt K F (Γ.set i (.d (.lst ds))) σ (upd G p (.lst vs)) H := by
  obtain ⟨p, u, h1, h2, h3, h5, h4, h6⟩ := s.own i _ _ e
  obtain ⟨vs, rfl, ha⟩ := h4.lst
  have hl : i < Γ.length := (List.getElem?_eq_some_iff.mp e).1
  have ex : Ex G (upd G p (.lst vs)) := Evl.Ex.new h3
  refine ⟨p, vs, h1, h2, h3, h5, ?_⟩
  refine ⟨by rw [List.length_set]; exact s.len, fun b u' e' => ?_, fun j y e' => ?_, fun j o1 pb e' => ?_, fun j k q o1 o2 pb pc e1 e2 e3 e4 => ?_, fun j xs e' => ?_, fun j xa xd xf e' => ?_, s.tre.reown e _ (fun _ e => nomatch e) fun j x p' qs ej a => a.updG h3 (s.tre.sep j x p' qs ej a i _ _ p e h1)⟩
  · by_cases hb : b = p
    · subst hb
      rw [upd_same] at e'
      rw [h2]
      exact e'
    · rw [upd_ne hb] at e'
      exact s.sub b u' e'
  · by_cases hj : i = j
    · subst hj
      rw [List.getElem?_set_self hl] at e'
      cases e'
      exact ⟨_, h1, .lst upd_same (ha.up ex)⟩
    · rw [List.getElem?_set_ne hj] at e'
      obtain ⟨v, k1, k2⟩ := s.dat j y e'
      exact ⟨v, k1, k2.up ex⟩
  · by_cases hj : i = j
    · subst hj
      rw [List.getElem?_set_self hl] at e'
      cases e'
    · rw [List.getElem?_set_ne hj] at e'
      obtain ⟨q, w', k1, k2, k3, k4, k5, k6⟩ := s.own j o1 pb e'
      have hne : q ≠ p := fun z => by
        subst z
        exact hj (s.sep i j q _ o1 _ pb e e' h1 k1)
      exact ⟨q, w', k1, k2, by rw [upd_ne hne]; exact k3, k4, k5.up ex, k6⟩
  · have ne : ∀ {j : Nat} {o : OO} {pa : Option Addr}, (Γ.set i (B.d (.lst ds)))[j]? = some (B.own o pa) → i ≠ j := fun {j o pa} e z => by
      subst z
      rw [List.getElem?_set_self hl] at e
      cases e
    have n1 := ne e1
    have n2 := ne e2
    rw [List.getElem?_set_ne n1] at e1
    rw [List.getElem?_set_ne n2] at e2
    exact s.sep j k q o1 o2 pb pc e1 e2 e3 e4
  · have hj : i ≠ j := fun z => by
      subst z
      rw [List.getElem?_set_self hl] at e'
      cases e'
    rw [List.getElem?_set_ne hj] at e'
    obtain ⟨q, ws, k1, k2, k3, k4⟩ := s.bor j xs e'
    exact ⟨q, ws, k1, k2, k3, k4.up ex⟩
  · have hj : i ≠ j := fun z => by
      subst z
      rw [List.getElem?_set_self hl] at e'
      cases e'
    rw [List.getElem?_set_ne hj] at e'
    obtain ⟨v, k1, k2⟩ := s.exc j xa xd xf e'
    exact ⟨v, k1, k2.up ex⟩

/-- a slot gets an exception that is held -/
theorem Stt.setE {K : PySem.W.Frag} {F : Hp} {Γ : List B} {σ : L2.St} {G H : Hp} {v : V} {a : Addr} {d : Option Addr} {fs : List (Str × D)} (s : Stt K F Γ σ G H) (i : Nat) (h : ExS K G v a d fs) : Stt K F (Γ.set i (.exc a d fs)) (σ.set i (some v)) G H := by
  have bd : ∀ {j : Nat} {b : B}, i = j → (Γ.set i (B.exc a d fs))[j]? = some b → b = .exc a d fs ∧ i < Γ.length := fun {j b} z e => by
    subst z
    have hl : i < Γ.length := by
      have := (List.getElem?_eq_some_iff.mp e).1
      rw [List.length_set] at this
      exact this
    rw [List.getElem?_set_self hl] at e
    cases e
    exact ⟨rfl, hl⟩
  refine ⟨by rw [List.length_set, List.length_set]; exact s.len, s.sub, fun j y e => ?_, fun j o pa e => ?_, fun j k p o o' pa pa' e1 e2 e3 e4 => ?_, fun j xs e => ?_, fun j xa xd xf e => ?_, s.tre.set i _ _ (fun _ e => nomatch e) (fun _ _ e => nomatch e) fun _ => .inr fun _ _ e => nomatch e⟩
  · by_cases hj : i = j
    · cases (bd hj e).1
    · rw [List.getElem?_set_ne hj] at e ⊢
      exact s.dat j y e
  · by_cases hj : i = j
    · cases (bd hj e).1
    · rw [List.getElem?_set_ne hj] at e ⊢
      exact s.own j o pa e
  · have h1 : i ≠ j := fun z => by cases (bd z e1).1
    have h2 : i ≠ k := fun z => by cases (bd z e2).1
    rw [List.getElem?_set_ne h1] at e1 e3
    rw [List.getElem?_set_ne h2] at e2 e4
    exact s.sep j k p o o' pa pa' e1 e2 e3 e4
  · by_cases hj : i = j
    · cases (bd hj e).1
    · rw [List.getElem?_set_ne hj] at e ⊢
      exact s.bor j xs e
  · by_cases hj : i = j
    · obtain ⟨z, hl⟩ := bd hj e
      cases z
      subst hj
      exact ⟨v, List.getElem?_set_self (by rw [s.len]; exact hl), h⟩
    · rw [List.getElem?_set_ne hj] at e ⊢
      exact s.exc j xa xd xf e

/-! ### what an expression comes to -/
def EvD (K : PySem.W.Frag) (Γ : List B) (te : TE) (x : D) : Prop :=
  ∀ F σ G H, Stt K F Γ σ G H → ∀ Q : VK, (∀ v G' H', Grow G H G' H' → Is K G' v x → Q v H') → te σ H Q
/-- a new thing of one's own -/
def EvO (K : PySem.W.Frag) (Γ : List B) (te : TE) (o : OO) : Prop :=
  ∀ F σ G H, Stt K F Γ σ G H → ∀ Q : VK, (∀ p u G' H', Grow G H G' H' → H' p = some u → G' p = none → H p = none → OwnIs K G' o u → Q (.ref p) H') → te σ H Q
/-- a list that may be read -/
def EvL (K : PySem.W.Frag) (Γ : List B) (te : TE) (ds : List D) : Prop :=
  ∀ F σ G H, Stt K F Γ σ G H → ∀ Q : VK, (∀ p vs G' H', Grow G H G' H' → H' p = some (.lst vs) → IsAll K G' vs ds → Q (.ref p) H') → te σ H Q
def EvT (K : PySem.W.Frag) (Γ : List B) (tt : TT) (b : Bool) : Prop :=
  ∀ F σ G H, Stt K F Γ σ G H → ∀ Q : Bool → Hp → Prop, (∀ G' H', Grow G H G' H' → Q b H') → tt σ H Q
def EvA (K : PySem.W.Frag) (Γ : List B) (ta : TA) (ds : List D) : Prop :=
  ∀ F σ G H, Stt K F Γ σ G H → ∀ Q : List V → Hp → Prop, (∀ vs G' H', Grow G H G' H' → IsAll K G' vs ds → Q vs H') → ta σ H Q
def EvP (K : PySem.W.Frag) (Γ : List B) (to : TO) (o : Option Int) : Prop :=
  ∀ F σ G H, Stt K F Γ σ G H → ∀ Q : Option Int → Hp → Prop, (∀ G' H', Grow G H G' H' → Q o H') → to σ H Q

/-! the readings by their meaning -/
structure WE (X : Cx) (e : Expr) (σ : L2.St) (H : Hp) (Q : VK) : Prop where
  run : ∀ (pins : List (Addr × Obj)) (s : Shared), Inv X pins σ H s → wpAny (model X.prog X.w) X.A (eval e X.env) (EP X pins σ Q) X.xe s
structure WT (X : Cx) (e : Expr) (σ : L2.St) (H : Hp) (Q : Bool → Hp → Prop) : Prop where
  run : ∀ (pins : List (Addr × Obj)) (s : Shared), Inv X pins σ H s → wpAny (model X.prog X.w) X.A (isTrue e X.env (eval e X.env)) (TP X pins σ Q) X.xe s
structure WW (X : Cx) (e : Expr) (σ : L2.St) (H : Hp) (Q : Bool → Hp → Prop) : Prop where
  run : ∀ (whole : Sem Value) (pins : List (Addr × Obj)) (s : Shared), Inv X pins σ H s → wpAny (model X.prog X.w) X.A (isTrue e X.env whole) (TP X pins σ Q) X.xe s
structure WA (X : Cx) (es : List Expr) (σ : L2.St) (H : Hp) (Q : List V → Hp → Prop) : Prop where
  run : ∀ (pos : Pos) (pins : List (Addr × Obj)) (s : Shared), Inv X pins σ H s → wpAny (model X.prog X.w) X.A (spliced (backTo pos (starEach es X.env))) (AP X pins σ Q) X.xe s
structure WS (X : Cx) (sts : List Stmt) (D : Ends) (σ : L2.St) (H : Hp) : Prop where
  run : ∀ (pins : List (Addr × Obj)) (s : Shared), Inv X pins σ H s → wpAny (model X.prog X.w) X.A (execs sts X.env) (SP X pins D) X.xe s
def wE (X : Cx) (e : Expr) : TE := WE X e
def wT (X : Cx) (e : Expr) : TT := WT X e
def wW (X : Cx) (e : Expr) : TT := WW X e
def wA (X : Cx) (es : List Expr) : TA := WA X es
def wS (X : Cx) (sts : List Stmt) : TS := WS X sts
section
variable {X : Cx} {e : Expr} {es : List Expr} {sts : List Stmt}
theorem pe_w : PE X e (wE X e) := ⟨fun pins s _ _ _ I h => WE.run h pins s I⟩
theorem pt_w : PT X e (wT X e) := ⟨fun pins s _ _ _ I h => WT.run h pins s I⟩
theorem pw_w : PW X e (wW X e) := ⟨fun wh pins s _ _ _ I h => WW.run h wh pins s I⟩
theorem pa_w : PA X es (wA X es) := ⟨fun pos pins s _ _ _ I h => WA.run h pos pins s I⟩
theorem pss_w : PSs X sts (wS X sts) := ⟨fun pins s _ _ _ I h => WS.run h pins s I⟩
end

abbrev ED (X : Cx) (Γ : List B) (e : Expr) (x : D) : Prop := EvD X.K Γ (wE X e) x
abbrev EO (X : Cx) (Γ : List B) (e : Expr) (o : OO) : Prop := EvO X.K Γ (wE X e) o
abbrev EL (X : Cx) (Γ : List B) (e : Expr) (ds : List D) : Prop := EvL X.K Γ (wE X e) ds
abbrev ET (X : Cx) (Γ : List B) (e : Expr) (b : Bool) : Prop := EvT X.K Γ (wT X e) b
abbrev EW (X : Cx) (Γ : List B) (e : Expr) (b : Bool) : Prop := EvT X.K Γ (wW X e) b
abbrev EA (X : Cx) (Γ : List B) (es : List Expr) (ds : List D) : Prop := EvA X.K Γ (wA X es) ds

section
variable {X : Cx} {Γ : List B} {e : Expr} {es : List Expr} {x : D} {o : OO} {ds : List D} {b : Bool}
theorem ed_of {t : TE} (h : PE X e t) (k : EvD X.K Γ t x) : ED X Γ e x := fun F σ G H s Q q => ⟨fun pins sh I => h.run pins sh σ H Q I (k F σ G H s Q q)⟩
theorem eo_of {t : TE} (h : PE X e t) (k : EvO X.K Γ t o) : EO X Γ e o := fun F σ G H s Q q => ⟨fun pins sh I => h.run pins sh σ H Q I (k F σ G H s Q q)⟩
theorem el_of {t : TE} (h : PE X e t) (k : EvL X.K Γ t ds) : EL X Γ e ds := fun F σ G H s Q q => ⟨fun pins sh I => h.run pins sh σ H Q I (k F σ G H s Q q)⟩
theorem et_of {t : TT} (h : PT X e t) (k : EvT X.K Γ t b) : ET X Γ e b := fun F σ G H s Q q => ⟨fun pins sh I => h.run pins sh σ H Q I (k F σ G H s Q q)⟩
theorem ew_of {t : TT} (h : PW X e t) (k : EvT X.K Γ t b) : EW X Γ e b := fun F σ G H s Q q => ⟨fun wh pins sh I => h.run wh pins sh σ H Q I (k F σ G H s Q q)⟩
theorem ea_of {t : TA} (h : PA X es t) (k : EvA X.K Γ t ds) : EA X Γ es ds := fun F σ G H s Q q => ⟨fun pos pins sh I => h.run pos pins sh σ H Q I (k F σ G H s Q q)⟩
end
section
variable {K : PySem.W.Frag} {Γ : List B} {te : TE} {o : OO} {ds : List D}
/-- one's own thing as a thing that stays -/
theorem EvO.frz (h : EvO K Γ te (.lst ds)) : EvD K Γ te (.lst ds) := fun F σ G H s Q q => h F σ G H s Q fun p u G' H' g hp n hn ho => by
  obtain ⟨vs, rfl, ha⟩ := ho.lst
  exact q _ _ _ (g.frz hn hp n) (.lst upd_same (ha.up (Evl.Ex.new n)))
theorem EvO.frzD {ks : List (Key × D)} (h : EvO K Γ te (.dct ks)) : EvD K Γ te (.dct ks) := fun F σ G H s Q q => h F σ G H s Q fun p u G' H' g hp n hn ho => by
  cases u with
  | dK vs => exact q _ _ _ (g.frz hn hp n) (.dct upd_same (IsKV.mono (Evl.Ex.new n) ks vs ho))
  | _ => exact ho.elim
theorem EvO.el (h : EvO K Γ te (.lst ds)) : EvL K Γ te ds := fun F σ G H s Q q => h F σ G H s Q fun p u G' H' g hp n hn ho => by
  obtain ⟨vs, rfl, ha⟩ := ho.lst
  exact q _ _ _ _ g hp ha
theorem EvD.el (h : EvD K Γ te (.lst ds)) : EvL K Γ te ds := fun F σ G H s Q q => h F σ G H s Q fun v G' H' g hi => by
  cases hi with
  | lst h1 h2 => exact q _ _ _ _ g (g.s _ _ h1) h2
end
end Sd

namespace Sd
open PySem PySem.Spec PyProof.Rows L2

/-! ### argument lists without stars -/
def nst : Expr → Bool
  | .Starred .. => false
  | _ => true
theorem starEach_ns {e : Expr} {es : List Expr} {env : Env} (h : nst e = true) : starEach (e :: es) env = (false, eval e env) :: starEach es env := by
  cases e <;> first | rfl | cases h
theorem starEach_ns2 {a b : Expr} {env : Env} (h : (nst a && nst b) = true) : starEach [a, b] env = [(false, eval a env), (false, eval b env)] := by
  rw [Bool.and_eq_true] at h
  rw [starEach_ns h.1, starEach_ns h.2]
  rfl
theorem plain_ok {env : Env} {pos : Pos} : ∀ {es : List Expr}, es.all nst = true → (backTo pos (starEach es env)).any (·.1) = false
  | [], _ => rfl
  | e :: es, h => by
    rw [List.all_cons, Bool.and_eq_true] at h
    have ih := plain_ok (env := env) (pos := pos) h.2
    rw [starEach_ns h.1]
    unfold backTo at ih ⊢
    rw [List.map_cons, List.any_cons, ih]
    rfl
theorem few_ok {env : Env} {cpos : Pos} {es : List Expr} (h : (es.all nst && decide (es.length < 30)) = true) :
    ((backTo cpos (starEach es env)).all (fun x => !x.1) && (backToKw cpos (keywordEach [] env)).all (fun x => x.1.isSome) && decide (es.length + ([] : List Keyword).length + (if ([] : List Keyword).isEmpty then 0 else 1) < 30)) = true := by
  rw [Bool.and_eq_true] at h
  have h1 := plain_ok (env := env) (pos := cpos) h.1
  have h2 : (backTo cpos (starEach es env)).all (fun x => !x.1) = true := by
    rw [List.all_eq_true]
    intro x hx
    rw [List.any_eq_false] at h1
    simpa using h1 x hx
  have h3 := of_decide_eq_true h.2
  rw [h2]
  show (true && true && decide (es.length + 0 + 0 < 30)) = true
  simpa using h3

/-- nothing that is read in a way of its own -/
def nlc : Expr → Bool
  | .ListComp .. => false
  | .SetComp .. => false
  | .DictComp .. => false
  | _ => true
theorem sw_ns {e : Expr} {t : Option Expr} {l : Nat} {env : Env} (h : nlc e = true) : swapsWith e t l env = pure false := by
  cases e <;> first | rfl | cases h
theorem sws_ns {t e : Expr} {l : Nat} {env : Env} (h : nlc e = true) : swapsWithSole [t] e l env = pure false := sw_ns h
def ntu : Expr → Bool
  | .Tuple .. => false
  | _ => true
theorem sst_ns {ts : List Expr} {e : Expr} {env : Env} (h : ntu e = true) : swappedStores ts e env = pure none := by
  unfold swappedStores
  cases e <;> first | cases h | skip
  all_goals
    cases ts with
    | nil => rfl
    | cons t ts =>
      cases ts with
      | nil => cases t <;> rfl
      | cons u ts => cases t <;> rfl
def nsl : Expr → Bool
  | .Slice .. => false
  | _ => true
theorem ix_ns {e : Expr} (h : nsl e = true) : PlainIx e := fun o i => by
  cases e <;> first | rfl | cases h
def tst : Expr → Bool
  | .UnaryOp .. => false
  | .BoolOp .. => false
  | .IfExp .. => false
  | .Compare .. => false
  | _ => true
theorem it_ns {e : Expr} {env : Env} (h : tst e = true) (whole : Sem Value) : isTrue e env whole = (do let v ← whole; standAt e.pos; holding [v] (truthy v)) := by
  cases e <;> first | rfl | cases h
def nse : Expr → Bool
  | .Set .. => false
  | _ => true
theorem fs_ns {e : Expr} {env : Env} (h : nse e = true) (x : Value) : foldedSetIterable e env x = pure x := by
  cases e <;> first | rfl | cases h
def ncl : Expr → Bool
  | .Call .. => false
  | _ => true
theorem ab_ns {o : Expr} {a : Str} {env : Env} {w : Sem Value} (h : ncl o = true) : attributeBase o a env w = w := by
  cases o <;> first | rfl | cases h

/-! ### names and constants -/
section
variable {X : Cx} {Γ : List B} {pos : Pos} {x : Str}
theorem ed_var (i : Nat) {d : D} (hN : X.N[i]? = some x) (hv : Vis X.env.scope x) (h : Γ[i]? = some (B.d d)) (hd : (x == ("__debug__" : Str)) = false := by decide) (hcd : (x == ("__classdict__" : Str)) = false := by decide) : ED X Γ (.Name x pos) d :=
  ed_of (pe_var hN hv hd hcd) fun F σ G H s Q q => let ⟨v, h1, h2⟩ := s.dat i d h; ⟨v, h1, q v G H (.refl s.sub) h2⟩
/-- one's own list, read -/
theorem el_own (i : Nat) {ds : List D} {pa : Option Addr} (hN : X.N[i]? = some x) (hv : Vis X.env.scope x) (h : Γ[i]? = some (B.own (.lst ds) pa)) (hd : (x == ("__debug__" : Str)) = false := by decide) (hcd : (x == ("__classdict__" : Str)) = false := by decide) : EL X Γ (.Name x pos) ds :=
  el_of (pe_var hN hv hd hcd) fun F σ G H s Q q => by
    obtain ⟨p, u, h1, h2, h3, _, h4, _⟩ := s.own i _ _ h
    obtain ⟨vs, rfl, ha⟩ := h4.lst
    exact ⟨_, h1, q p vs G H (.refl s.sub) h2 ha⟩
theorem ed_int {i : Int} {j : Nat} : ED X Γ (.Constant (.int i) j pos) (.int i) := ed_of pe_int fun F σ G H s Q q => q _ G H (.refl s.sub) (.int i)
theorem ed_bl {b : Bool} {j : Nat} : ED X Γ (.Constant (.bool b) j pos) (.bl b) := ed_of pe_bl fun F σ G H s Q q => q _ G H (.refl s.sub) (.bl b)
theorem ed_non {j : Nat} : ED X Γ (.Constant .none j pos) .non := ed_of pe_non fun F σ G H s Q q => q _ G H (.refl s.sub) .non
theorem ed_str {z : Str} {j : Nat} (l : List Nat) (h : z = S l) (ho : strOkB l = true) : ED X Γ (.Constant (.str z) j pos) (.str l) := ed_of pe_str fun F σ G H s Q q => q _ G H (.refl s.sub) (by rw [h]; exact .str l (strOk_of ho))
/-- a module's constant -/
theorem ed_gInt {i : Int} (hg : Gl X x) (hm : ∃ t, X.mg x = some (.int i t)) (hd : (x == ("__debug__" : Str)) = false := by decide) : ED X Γ (.Name x pos) (.int i) := by
  obtain ⟨t, hm⟩ := hm
  exact ed_of (pe_glob (v := .int i) hg hm ⟨t, rfl⟩ hd) fun F σ G H s Q q => q _ G H (.refl s.sub) (.int i)
theorem ed_gStr {l : List Nat} (hg : Gl X x) (hm : ∃ t, X.mg x = some (.str (S l) t)) (ho : strOkB l = true) (hd : (x == ("__debug__" : Str)) = false := by decide) : ED X Γ (.Name x pos) (.str l) := by
  obtain ⟨t, hm⟩ := hm
  exact ed_of (pe_glob (v := .str (S l)) hg hm ⟨t, rfl⟩ hd) fun F σ G H s Q q => q _ G H (.refl s.sub) (.str l (strOk_of ho))
/-- a built-in type as a value -/
theorem ed_ty {n : String} (hg : Gl X x) (hm : X.mg x = none) (hv : bootBuiltins x = some (.type n)) (hn : x ≠ "__name__" := by decide) (hd : (x == ("__debug__" : Str)) = false := by decide) : ED X Γ (.Name x pos) (.ty n) :=
  ed_of (pe_bltn (v := .ty n) hg hm hv rfl hn hd) fun F σ G H s Q q => q _ G H (.refl s.sub) (.ty n)
end

/-! ### operators -/
def RV (K : PySem.W.Frag) (r : R2) (x y z : D) : Prop := ∀ v w G H, Ex G H → Is K G v x → Is K G w y → ∀ Q : VK, (∀ u G' H', Grow G H G' H' → Is K G' u z → Q u H') → r v w H Q
def OpD (X : Cx) (f : Value → Value → Sem Value) (x y z : D) : Prop := ∃ r, OpR X f r ∧ RV X.K r x y z
section
variable {X : Cx} {Γ : List B} {pos : Pos} {a b c : Expr} {x y z : D}
theorem ev_op {K : PySem.W.Frag} {r : R2} {ta tb : TE} (ha : EvD K Γ ta x) (hb : EvD K Γ tb y) (hr : RV K r x y z) : EvD K Γ (tOp r ta tb) z := fun F σ G H s Q q =>
  ha F σ G H s _ fun v G1 H1 g1 i1 => hb F σ G1 H1 (s.grow g1) _ fun w G2 H2 g2 i2 => hr v w G2 H2 g2.s (i1.up g2.g) i2 Q fun u G3 H3 g3 i3 => q u G3 H3 ((g1.trans g2).trans g3) i3
theorem ed_op {op : Operator} (ho : OpD X (binaryOp op) x y z) (ha : ED X Γ a x) (hb : ED X Γ b y) : ED X Γ (.BinOp a op b pos) z := by
  obtain ⟨r, h1, h2⟩ := ho
  exact ed_of (pe_op h1 pe_w pe_w) (ev_op ha hb h2)
theorem ed_cmp {op : CmpOp} (ho : OpD X (compareOp op) x y z) (ha : ED X Γ a x) (hb : ED X Γ b y) (hm : behindInMarks op b = false := by first | exact nomark _ | with_unfolding_all rfl) : ED X Γ (.Compare a [op] [b] pos) z := by
  obtain ⟨r, h1, h2⟩ := ho
  exact ed_of (pe_cmpR h1 pe_w pe_w hm) (ev_op ha hb h2)
theorem ev_test {K : PySem.W.Frag} {te : TE} {k : Bool} (h : EvD K Γ te (.bl k)) : EvT K Γ (tTest te) k := fun F σ G H s Q q => h F σ G H s _ fun v G1 H1 g1 i1 => by
  cases i1
  exact ⟨k, rfl, q G1 H1 g1⟩
theorem ev_tB {K : PySem.W.Frag} {te : TE} {k : Bool} (h : EvD K Γ te (.bl k)) : EvT K Γ (tB te) k := fun F σ G H s Q q => h F σ G H s _ fun v G1 H1 g1 i1 => by
  cases i1
  exact ⟨k, rfl, q G1 H1 g1⟩
theorem et_cmp {op : CmpOp} {k : Bool} (ho : OpD X (compareOp op) x y (.bl k)) (ha : ED X Γ a x) (hb : ED X Γ b y) (hm : behindInMarks op b = false := by first | exact nomark _ | with_unfolding_all rfl) : ET X Γ (.Compare a [op] [b] pos) k := by
  obtain ⟨r, h1, h2⟩ := ho
  exact et_of (pt_cmpR h1 pe_w pe_w hm) (ev_test (ev_op ha hb h2))
/-- an expression that comes to a truth, as a test -/
theorem et_val {e : Expr} {k : Bool} (h : ED X Γ e (.bl k)) (he : ∀ whole, isTrue e X.env whole = (do let v ← whole; standAt e.pos; holding [v] (truthy v)) := by exact it_ns rfl) : ET X Γ e k := et_of (pt_val pe_w he) (ev_tB h)
theorem ev_chain {K : PySem.W.Frag} {r r' : R2} {ta tb tc : TE} {k k' : Bool} (ha : EvD K Γ ta x) (hb : EvD K Γ tb y) (hc : EvD K Γ tc z) (hr : RV K r x y (.bl k)) (hr' : RV K r' y z (.bl k')) : EvD K Γ (tChain r r' ta tb tc) (.bl (k && k')) := fun F σ G H s Q q =>
  ha F σ G H s _ fun v G1 H1 g1 i1 => hb F σ G1 H1 (s.grow g1) _ fun w G2 H2 g2 i2 => hr v w G2 H2 g2.s (i1.up g2.g) i2 _ fun u G3 H3 g3 i3 => by
    cases i3
    refine ⟨k, rfl, ?_⟩
    cases k with
    | true => exact hc F σ G3 H3 (((s.grow g1).grow g2).grow g3) _ fun w' G4 H4 g4 i4 => hr' w w' G4 H4 g4.s (i2.up (g3.g.trans g4.g)) i4 Q fun u' G5 H5 g5 i5 => q u' G5 H5 ((((g1.trans g2).trans g3).trans g4).trans g5) i5
    | false => exact q _ G3 H3 ((g1.trans g2).trans g3) (.bl _)
theorem ed_chain {op op' : CmpOp} {k k' : Bool} (ho : OpD X (compareOp op) x y (.bl k)) (ho' : OpD X (compareOp op') y z (.bl k')) (ha : ED X Γ a x) (hb : ED X Γ b y) (hc : ED X Γ c z) (hm : lastMarks [op, op'] [b, c] = false := by with_unfolding_all rfl) :
    ED X Γ (.Compare a [op, op'] [b, c] pos) (.bl (k && k')) := by
  obtain ⟨r, h1, h2⟩ := ho
  obtain ⟨r', h3, h4⟩ := ho'
  exact ed_of (pe_chain h1 h3 pe_w pe_w pe_w hm) (ev_chain ha hb hc h2 h4)
theorem et_chain {op op' : CmpOp} {k k' : Bool} (ho : OpD X (compareOp op) x y (.bl k)) (ho' : OpD X (compareOp op') y z (.bl k')) (ha : ED X Γ a x) (hb : ED X Γ b y) (hc : ED X Γ c z) (hm : lastMarks [op, op'] [b, c] = false := by with_unfolding_all rfl) :
    ET X Γ (.Compare a [op, op'] [b, c] pos) (k && k') := by
  obtain ⟨r, h1, h2⟩ := ho
  obtain ⟨r', h3, h4⟩ := ho'
  exact et_of (pt_chain h1 h3 pe_w pe_w pe_w hm) (ev_test (ev_chain ha hb hc h2 h4))

/-! ### and, or, not: as values (truths), as tests -/
variable {rest : List Expr} {k k' : Bool}
theorem ed_and (ha : ED X Γ a (.bl k)) (hb : k = true → ED X Γ (.BoolOp .And (b :: rest) pos) (.bl k')) : ED X Γ (.BoolOp .And (a :: b :: rest) pos) (.bl (k && k')) :=
  ed_of (pe_and pe_w pe_w) fun F σ G H s Q q => ha F σ G H s _ fun v G1 H1 g1 i1 => by
    cases i1
    refine ⟨k, rfl, ?_⟩
    cases k with
    | true => exact hb rfl F σ G1 H1 (s.grow g1) _ fun v G2 H2 g2 i2 => q v G2 H2 (g1.trans g2) i2
    | false => exact q _ G1 H1 g1 (.bl _)
theorem ed_or (ha : ED X Γ a (.bl k)) (hb : k = false → ED X Γ (.BoolOp .Or (b :: rest) pos) (.bl k')) : ED X Γ (.BoolOp .Or (a :: b :: rest) pos) (.bl (k || k')) :=
  ed_of (pe_or pe_w pe_w) fun F σ G H s Q q => ha F σ G H s _ fun v G1 H1 g1 i1 => by
    cases i1
    refine ⟨k, rfl, ?_⟩
    cases k with
    | false => exact hb rfl F σ G1 H1 (s.grow g1) _ fun v G2 H2 g2 i2 => q v G2 H2 (g1.trans g2) i2
    | true => exact q _ G1 H1 g1 (.bl _)
theorem ed_one {op : BoolOp} (ha : ED X Γ a x) : ED X Γ (.BoolOp op [a] pos) x := ed_of (pe_one pe_w) ha
theorem ed_not (ha : ED X Γ a (.bl k)) : ED X Γ (.UnaryOp .Not a pos) (.bl (!k)) := ed_of (pe_not pe_w) fun F σ G H s Q q => ha F σ G H s _ fun v G1 H1 g1 i1 => by
  cases i1
  exact ⟨k, rfl, q _ G1 H1 g1 (.bl _)⟩
theorem ew_and (ha : ET X Γ a k) (hb : k = true → EW X Γ (.BoolOp .And (b :: rest) pos) k') : EW X Γ (.BoolOp .And (a :: b :: rest) pos) (k && k') :=
  ew_of (pw_and pt_w pw_w) fun F σ G H s Q q => ha F σ G H s _ fun G1 H1 g1 => by
    cases k with
    | true => exact hb rfl F σ G1 H1 (s.grow g1) _ fun G2 H2 g2 => q G2 H2 (g1.trans g2)
    | false => exact q G1 H1 g1
theorem ew_or (ha : ET X Γ a k) (hb : k = false → EW X Γ (.BoolOp .Or (b :: rest) pos) k') : EW X Γ (.BoolOp .Or (a :: b :: rest) pos) (k || k') :=
  ew_of (pw_or pt_w pw_w) fun F σ G H s Q q => ha F σ G H s _ fun G1 H1 g1 => by
    cases k with
    | false => exact hb rfl F σ G1 H1 (s.grow g1) _ fun G2 H2 g2 => q G2 H2 (g1.trans g2)
    | true => exact q G1 H1 g1
theorem ew_and1 (ha : ET X Γ a k) : EW X Γ (.BoolOp .And [a] pos) k := ew_of (pw_and1 pt_w) ha
theorem ew_or1 (ha : ET X Γ a k) : EW X Γ (.BoolOp .Or [a] pos) k := ew_of (pw_or1 pt_w) ha
theorem et_w (h : EW X Γ a k) : ET X Γ a k := et_of pw_w.pt h
theorem et_not (ha : ET X Γ a k) : ET X Γ (.UnaryOp .Not a pos) (!k) := et_of (pt_not pt_w) fun F σ G H s Q q => ha F σ G H s _ fun G1 H1 g1 => q G1 H1 g1
theorem ed_if {α : Type} {f : α → D} {u v : α} (ht : ET X Γ c k) (ha : k = true → ED X Γ a (f u)) (hb : k = false → ED X Γ b (f v)) : ED X Γ (.IfExp c a b pos) (f (if k = true then u else v)) :=
  ed_of (pe_ifExp pt_w pe_w pe_w) fun F σ G H s Q q => ht F σ G H s _ fun G1 H1 g1 => by
    cases k with
    | true => exact ha rfl F σ G1 H1 (s.grow g1) _ fun v G2 H2 g2 i2 => q v G2 H2 (g1.trans g2) i2
    | false => exact hb rfl F σ G1 H1 (s.grow g1) _ fun v G2 H2 g2 i2 => q v G2 H2 (g1.trans g2) i2
end

/-! ### single operators -/
section
variable {X : Cx}
theorem rv_int {K : PySem.W.Frag} {r : R2} {i j : Int} {z : D} {u : V} (hz : ∀ G, Is K G u z) (h : ∀ H Q, Q u H → r (.int i) (.int j) H Q) : RV K r (.int i) (.int j) z := fun v w G H e iv iw Q q => by
  cases iv
  cases iw
  exact h H Q (q u G H (.refl e) (hz G))
theorem od_add (i j : Int) : OpD X (binaryOp .Add) (.int i) (.int j) (.int (i + j)) := ⟨_, op_add, rv_int (fun _ => .int _) fun H Q q => ⟨i, j, rfl, rfl, q⟩⟩
theorem od_sub (i j : Int) : OpD X (binaryOp .Sub) (.int i) (.int j) (.int (i - j)) := ⟨_, op_sub, rv_int (fun _ => .int _) fun H Q q => ⟨i, j, rfl, rfl, q⟩⟩
theorem od_mul (i j : Int) (h : CMul i j) : OpD X (binaryOp .Mult) (.int i) (.int j) (.int (i * j)) := ⟨_, op_mul, rv_int (fun _ => .int _) fun H Q q => ⟨i, j, rfl, rfl, h, q⟩⟩
theorem od_mulW (i j : Int) (h : CMulW i j) : OpD X (binaryOp .Mult) (.int i) (.int j) (.int (i * j)) := ⟨_, op_mulW, rv_int (fun _ => .int _) fun H Q q => ⟨i, j, rfl, rfl, h, q⟩⟩
theorem od_div (i j : Int) (h : CDiv i j) : OpD X (binaryOp .FloorDiv) (.int i) (.int j) (.int (i / j)) := ⟨_, op_fdiv, rv_int (fun _ => .int _) fun H Q q => ⟨i, j, rfl, rfl, h, q⟩⟩
theorem od_divW (i j : Int) (h : CDivW i j) : OpD X (binaryOp .FloorDiv) (.int i) (.int j) (.int (i / j)) := ⟨_, op_fdivW, rv_int (fun _ => .int _) fun H Q q => ⟨i, j, rfl, rfl, h, q⟩⟩
theorem od_mod (i j : Int) (h : 0 < j) : OpD X (binaryOp .Mod) (.int i) (.int j) (.int (i % j)) := ⟨_, op_mod, rv_int (fun _ => .int _) fun H Q q => ⟨i, j, rfl, rfl, h, q⟩⟩
theorem od_shr (i j : Int) (h : 0 ≤ j) : OpD X (binaryOp .RShift) (.int i) (.int j) (.int (i / 2 ^ j.toNat)) := ⟨_, op_shr, rv_int (fun _ => .int _) fun H Q q => ⟨i, j, rfl, rfl, h, q⟩⟩
theorem od_shl1 (k : Nat) (h : k ≤ 134217727) : OpD X (binaryOp .LShift) (.int 1) (.int (k : Int)) (.int (2 ^ k)) := ⟨_, op_oneShl, rv_int (fun _ => .int _) fun H Q q => ⟨k, rfl, rfl, h, q⟩⟩
theorem od_pow (i j : Int) (h : CPow i j) : OpD X (binaryOp .Pow) (.int i) (.int j) (.int (i ^ j.toNat)) := ⟨_, op_pow, rv_int (fun _ => .int _) fun H Q q => ⟨i, j, rfl, rfl, h, q⟩⟩
theorem od_andM (i j : Int) (k : Nat) (h : j = 2 ^ k - 1) : OpD X (binaryOp .BitAnd) (.int i) (.int j) (.int (i % 2 ^ k)) := ⟨_, op_andM, rv_int (fun _ => .int _) fun H Q q => ⟨i, k, rfl, by rw [h], q⟩⟩
theorem od_or (i j : Int) : OpD X (binaryOp .BitOr) (.int i) (.int j) (.int (Builtin.bitOr i j)) := ⟨_, op_or, rv_int (fun _ => .int _) fun H Q q => ⟨i, j, rfl, rfl, q⟩⟩
theorem od_lt (i j : Int) : OpD X (compareOp .Lt) (.int i) (.int j) (.bl (decide (i < j))) := ⟨_, op_lt, rv_int (fun _ => .bl _) fun H Q q => ⟨i, j, rfl, rfl, q⟩⟩
theorem od_le (i j : Int) : OpD X (compareOp .LtE) (.int i) (.int j) (.bl (decide (i ≤ j))) := ⟨_, op_le, rv_int (fun _ => .bl _) fun H Q q => ⟨i, j, rfl, rfl, q⟩⟩
theorem od_gt (i j : Int) : OpD X (compareOp .Gt) (.int i) (.int j) (.bl (decide (j < i))) := ⟨_, op_gt, rv_int (fun _ => .bl _) fun H Q q => ⟨i, j, rfl, rfl, q⟩⟩
theorem od_ge (i j : Int) : OpD X (compareOp .GtE) (.int i) (.int j) (.bl (decide (j ≤ i))) := ⟨_, op_ge, rv_int (fun _ => .bl _) fun H Q q => ⟨i, j, rfl, rfl, q⟩⟩
theorem dec_iff {p q : Prop} [Decidable p] [Decidable q] (h : p ↔ q) : decide p = decide q := by
  by_cases hp : p
  · rw [decide_eq_true hp, decide_eq_true (h.mp hp)]
  · rw [decide_eq_false hp, decide_eq_false fun z => hp (h.mpr z)]
theorem S_inj {l m : List Nat} : S l = S m ↔ l = m := ⟨fun h => by have := congrArg (fun z : Str => z.cps.toList) h; simpa using this, fun h => by rw [h]⟩
theorem od_eqI (i j : Int) : OpD X (compareOp .Eq) (.int i) (.int j) (.bl (decide (i = j))) := ⟨_, op_eq, rv_int (fun _ => .bl _) fun H Q q => ⟨rfl, by rw [dec_iff (show V.int i = V.int j ↔ i = j from ⟨fun z => V.int.inj z, fun z => by rw [z]⟩)]; exact q⟩⟩
theorem od_neI (i j : Int) : OpD X (compareOp .NotEq) (.int i) (.int j) (.bl (!decide (i = j))) := ⟨_, op_ne, rv_int (fun _ => .bl _) fun H Q q => ⟨rfl, by rw [dec_iff (show V.int i = V.int j ↔ i = j from ⟨fun z => V.int.inj z, fun z => by rw [z]⟩)]; exact q⟩⟩
theorem rv_str {K : PySem.W.Frag} {r : R2} {i j : List Nat} {z : D} {u : V} (hz : StrOk i → StrOk j → ∀ G, Is K G u z) (h : ∀ H Q, Q u H → r (.str (S i)) (.str (S j)) H Q) : RV K r (.str i) (.str j) z := fun v w G H e iv iw Q q => by
  have a := iv.strOk
  have b := iw.strOk
  cases iv
  cases iw
  exact h H Q (q u G H (.refl e) (hz a b G))
theorem dec_str (i j : List Nat) : decide (V.str (S i) = V.str (S j)) = decide (i = j) := dec_iff ⟨fun z => S_inj.mp (V.str.inj z), fun z => by rw [z]⟩
theorem od_eqS (i j : List Nat) : OpD X (compareOp .Eq) (.str i) (.str j) (.bl (decide (i = j))) := ⟨_, op_eq, rv_str (fun _ _ _ => .bl _) fun H Q q => ⟨rfl, by rw [dec_str]; exact q⟩⟩
theorem od_neS (i j : List Nat) : OpD X (compareOp .NotEq) (.str i) (.str j) (.bl (!decide (i = j))) := ⟨_, op_ne, rv_str (fun _ _ _ => .bl _) fun H Q q => ⟨rfl, by rw [dec_str]; exact q⟩⟩
theorem dec_bl (i j : Bool) : decide (V.bl i = V.bl j) = decide (i = j) := dec_iff ⟨fun z => V.bl.inj z, fun z => by rw [z]⟩
theorem od_eqB (i j : Bool) : OpD X (compareOp .Eq) (.bl i) (.bl j) (.bl (decide (i = j))) := ⟨_, op_eq, fun v w G H e iv iw Q q => by
  cases iv
  cases iw
  exact ⟨rfl, by rw [dec_bl]; exact q _ G H (.refl e) (.bl _)⟩⟩
theorem od_neB (i j : Bool) : OpD X (compareOp .NotEq) (.bl i) (.bl j) (.bl (!decide (i = j))) := ⟨_, op_ne, fun v w G H e iv iw Q q => by
  cases iv
  cases iw
  exact ⟨rfl, by rw [dec_bl]; exact q _ G H (.refl e) (.bl _)⟩⟩
theorem S_app (i j : List Nat) : S i ++ S j = S (i ++ j) := by
  show Str.mk (i.toArray ++ j.toArray) = Str.mk (i ++ j).toArray
  simp
theorem S_len (i : List Nat) : (S i).length = i.length := by simp [S, Str.length]
theorem od_addS (i j : List Nat) (h : i.length + j.length ≤ LMax) : OpD X (binaryOp .Add) (.str i) (.str j) (.str (i ++ j)) := ⟨_, op_add_str, rv_str (fun a b _ => .str _ ⟨by rw [List.length_append]; exact h, chrOk_app a.chr b.chr⟩) fun H Q q => ⟨_, _, rfl, rfl, by rw [S_len, S_len]; unfold LMax at h; rw [sizeLine_eq]; omega, by rw [S_app]; exact q⟩⟩
/-- one sign in a text -/
theorem od_inS (c : Nat) (j : List Nat) : OpD X (compareOp .In) (.str [c]) (.str j) (.bl (decide (c ∈ j))) := ⟨_, op_in_sign, rv_str (fun _ _ _ => .bl _) fun H Q q => ⟨c, _, rfl, rfl, by simpa using q⟩⟩
theorem od_notInS (c : Nat) (j : List Nat) : OpD X (compareOp .NotIn) (.str [c]) (.str j) (.bl (!decide (c ∈ j))) := ⟨_, op_notIn_sign, rv_str (fun _ _ _ => .bl _) fun H Q q => ⟨c, _, rfl, rfl, by simpa using q⟩⟩
/-- is None -/
def isNon : D → Bool
  | .non => true
  | _ => false
theorem isNon_iff {K : PySem.W.Frag} {G : Hp} {v : V} {d : D} (h : Is K G v d) : decide (v = .non) = isNon d := by
  cases h <;> rfl
theorem od_isN (x : D) : OpD X (compareOp .Is) x .non (.bl (isNon x)) := ⟨_, op_isN, fun v w G H e iv iw Q q => by
  cases iw
  exact ⟨rfl, by rw [isNon_iff iv]; exact q _ G H (.refl e) (.bl _)⟩⟩
theorem od_notN (x : D) : OpD X (compareOp .IsNot) x .non (.bl (!isNon x)) := ⟨_, op_notN, fun v w G H e iv iw Q q => by
  cases iw
  exact ⟨rfl, by rw [isNon_iff iv]; exact q _ G H (.refl e) (.bl _)⟩⟩
end
section
variable {X : Cx} {Γ : List B} {pos : Pos} {a : Expr}
theorem ed_neg {i : Int} (ha : ED X Γ a (.int i)) : ED X Γ (.UnaryOp .USub a pos) (.int (-i)) := ed_of (pe_un un_neg pe_w) fun F σ G H s Q q => ha F σ G H s _ fun v G1 H1 g1 i1 => by
  cases i1
  exact ⟨i, rfl, q _ G1 H1 g1 (.int _)⟩
end

/-! ### lists, tuples -/
section
variable {X : Cx} {Γ : List B} {pos : Pos} {a b : Expr} {e : Expr} {es : List Expr} {x : D} {ds ds' : List D}
theorem ea_nil : EA X Γ [] [] := ea_of pa_nil fun F σ G H s Q q => q [] G H (.refl s.sub) .nil
theorem ea_cons (h : ED X Γ e x) (ht : EA X Γ es ds) (he : starEach (e :: es) X.env = (false, eval e X.env) :: starEach es X.env := by exact starEach_ns rfl) : EA X Γ (e :: es) (x :: ds) :=
  ea_of (pa_cons pe_w pa_w he) fun F σ G H s Q q => h F σ G H s _ fun v G1 H1 g1 i1 => ht F σ G1 H1 (s.grow g1) _ fun vs G2 H2 g2 i2 => q _ G2 H2 (g1.trans g2) (.cons (i1.up g2.g) i2)
theorem ed_tup {k : Nat} (h : EA X Γ es ds) (hl : ds.length ≤ sizeLine) : ED X Γ (.Tuple es k pos) (.tup ds) := ed_of (pe_tup pa_w) fun F σ G H s Q q => h F σ G H s _ fun vs G1 H1 g1 i1 =>
  ⟨by rw [i1.len]; exact hl, fun p hp => q _ _ _ (g1.trans (Grow.new g1.s hp)) (.tup (Or.inl (Or.inl upd_same)) (i1.up (Evl.Ex.new (Evl.fresh_back g1.s hp))))⟩
theorem eo_lst (h : EA X Γ es ds) (hl : ds.length ≤ sizeLine) : EO X Γ (.List es pos) (.lst ds) := eo_of (pe_lst pa_w) fun F σ G H s Q q => h F σ G H s _ fun vs G1 H1 g1 i1 =>
  ⟨by rw [i1.len]; exact hl, fun p hp => q _ _ _ _ (g1.trans (Grow.lay g1.s hp)) upd_same (Evl.fresh_back g1.s hp) (Evl.fresh_back g1.h hp) i1⟩
theorem atI_map {α β : Type} {f : α → β} {xs : List α} {i : Int} {y : α} (h : atI xs i = some y) : atI (xs.map f) i = some (f y) := by
  unfold atI at h ⊢
  rw [List.length_map]
  cases hi : ixN xs.length i with
  | none =>
    rw [hi] at h
    cases h
  | some j =>
    rw [hi] at h
    have h' : xs[j]? = some y := h
    show (xs.map f)[j]? = some (f y)
    rw [List.getElem?_map, h']
    rfl
theorem IsAll.atI {K : PySem.W.Frag} {G : Hp} {vs : List V} {i : Int} (h : IsAll K G vs ds) (e : L2.atI ds i = some x) : ∃ v, L2.atI vs i = some v ∧ Is K G v x := by
  unfold L2.atI at e ⊢
  rw [h.len]
  cases hi : ixN ds.length i with
  | none =>
    rw [hi] at e
    cases e
  | some j =>
    rw [hi] at e
    exact h.get (show ds[j]? = some x from e)
theorem ed_ixL {i : Int} (ha : EL X Γ a ds) (hb : ED X Γ b (.int i)) (h : atI ds i = some x) (hs : PlainIx b := by exact ix_ns rfl) : ED X Γ (.Subscript a b pos) x :=
  ed_of (pe_ix ix_list pe_w pe_w hs) fun F σ G H s Q q => ha F σ G H s _ fun p vs G1 H1 g1 h1 i1 => hb F σ G1 H1 (s.grow g1) _ fun w G2 H2 g2 i2 => by
    cases i2
    obtain ⟨v, e1, e2⟩ := i1.atI h
    exact ⟨p, vs, i, v, rfl, rfl, .inl (.inl (g2.h _ _ h1)), e1, q v G2 H2 (g1.trans g2) (e2.up g2.g)⟩
theorem ed_ixT {i : Int} (ha : ED X Γ a (.tup ds)) (hb : ED X Γ b (.int i)) (h : atI ds i = some x) (hs : PlainIx b := by exact ix_ns rfl) : ED X Γ (.Subscript a b pos) x :=
  ed_of (pe_ix ix_tup pe_w pe_w hs) fun F σ G H s Q q => ha F σ G H s _ fun v G1 H1 g1 i1 => hb F σ G1 H1 (s.grow g1) _ fun w G2 H2 g2 i2 => by
    cases i1 with
    | tup h1 h2 =>
      cases i2
      obtain ⟨v, e1, e2⟩ := h2.atI h
      exact ⟨_, _, i, v, rfl, rfl, Evl.ex_t (g2.g.trans g2.s) h1, e1, q v G2 H2 (g1.trans g2) (e2.up g2.g)⟩
theorem ed_ixS {i : Int} {l : List Nat} {c : Nat} (ha : ED X Γ a (.str l)) (hb : ED X Γ b (.int i)) (h : atI l i = some c) (hs : PlainIx b := by exact ix_ns rfl) : ED X Γ (.Subscript a b pos) (.str [c]) :=
  ed_of (pe_ix ix_str pe_w pe_w hs) fun F σ G H s Q q => ha F σ G H s _ fun v G1 H1 g1 i1 => hb F σ G1 H1 (s.grow g1) _ fun w G2 H2 g2 i2 => by
    have a := i1.strOk
    cases i1
    cases i2
    exact ⟨_, i, c, rfl, rfl, by rw [S_len]; exact a.le, by simpa using h, q _ G2 H2 (g1.trans g2) (.str [c] (a.one (at_mem h)))⟩
/-! slices -/
def EPo (X : Cx) (Γ : List B) (o : Option Expr) (i : Option Int) : Prop := ∃ t, PO X o t ∧ EvP X.K Γ t i
theorem ep_none : EPo X Γ none none := ⟨_, po_none, fun F σ G H s Q q => q G H (.refl s.sub)⟩
theorem ep_some {i : Int} (h : ED X Γ e (.int i)) : EPo X Γ (some e) (some i) := ⟨_, po_some pe_w, fun F σ G H s Q q => h F σ G H s _ fun v G1 H1 g1 i1 => by
  cases i1
  exact ⟨i, rfl, q G1 H1 g1⟩⟩
theorem eo_slL {lo hi : Option Expr} {i j : Option Int} {p2 : Pos} (ha : EL X Γ a ds) (hl : EPo X Γ lo i) (hu : EPo X Γ hi j) : EO X Γ (.Subscript a (.Slice lo hi none p2) pos) (.lst (cutL ds i j)) := by
  obtain ⟨tl, k1, k2⟩ := hl
  obtain ⟨tu, k3, k4⟩ := hu
  refine eo_of (pe_slice sl_list pe_w k1 k3) fun F σ G H s Q q => ha F σ G H s _ fun p vs G1 H1 g1 h1 i1 => k2 F σ G1 H1 (s.grow g1) _ fun G2 H2 g2 => k4 F σ G2 H2 ((s.grow g1).grow g2) _ fun G3 H3 g3 => ?_
  have g := (g1.trans g2).trans g3
  refine ⟨p, vs, rfl, .inl (.inl (g3.h _ _ (g2.h _ _ h1))), fun l hl => q l _ G3 _ (g.trans (Grow.lay g3.s hl)) upd_same (Evl.fresh_back g3.s hl) (Evl.fresh_back g.h hl) ?_⟩
  have i3 := i1.up (g2.g.trans g3.g)
  show IsAll _ _ (cutV vs i j) (cutL ds i j)
  unfold cutV cutL
  rw [i3.len]
  exact (i3.drop _).take _
theorem ed_slS {lo hi : Option Expr} {i j : Option Int} {p2 : Pos} {l : List Nat} (ha : ED X Γ a (.str l)) (hl : EPo X Γ lo i) (hu : EPo X Γ hi j) : ED X Γ (.Subscript a (.Slice lo hi none p2) pos) (.str (cutL l i j)) := by
  obtain ⟨tl, k1, k2⟩ := hl
  obtain ⟨tu, k3, k4⟩ := hu
  refine ed_of (pe_slice sl_str pe_w k1 k3) fun F σ G H s Q q => ha F σ G H s _ fun v G1 H1 g1 i1 => k2 F σ G1 H1 (s.grow g1) _ fun G2 H2 g2 => k4 F σ G2 H2 ((s.grow g1).grow g2) _ fun G3 H3 g3 => ?_
  have a := i1.strOk
  cases i1
  refine ⟨_, rfl, by rw [S_len]; exact a.le, ?_⟩
  have e : cutS (S l) i j = S (cutL l i j) := by
    unfold cutS cutL
    rw [S_len]
  rw [e]
  exact q _ G3 H3 ((g1.trans g2).trans g3) (.str _ (a.cut _ _))
/-! + and * of lists -/
theorem eo_cat (ha : EL X Γ a ds) (hb : EL X Γ b ds') (hl : ds.length + ds'.length ≤ sizeLine) : EO X Γ (.BinOp a .Add b pos) (.lst (ds ++ ds')) :=
  eo_of (pe_op op_cat pe_w pe_w) fun F σ G H s Q q => ha F σ G H s _ fun p vs G1 H1 g1 h1 i1 => hb F σ G1 H1 (s.grow g1) _ fun p' ws G2 H2 g2 h2 i2 =>
    ⟨p, p', vs, ws, rfl, rfl, g2.h _ _ h1, h2, by rw [i1.len, i2.len]; exact hl, fun l hl => q l _ G2 _ ((g1.trans g2).trans (Grow.lay g2.s hl)) upd_same (Evl.fresh_back g2.s hl) (Evl.fresh_back (g1.trans g2).h hl) ((i1.up g2.g).app i2)⟩
theorem IsAll.rep {K : PySem.W.Frag} {G : Hp} {vs : List V} (h : IsAll K G vs ds) : ∀ n : Nat, IsAll K G (List.replicate n vs).flatten (List.replicate n ds).flatten
  | 0 => .nil
  | n + 1 => by
    rw [List.replicate_succ, List.replicate_succ, List.flatten_cons, List.flatten_cons]
    exact h.app (h.rep n)
theorem eo_rep {k : Int} (ha : EL X Γ a ds) (hb : ED X Γ b (.int k)) (h1 : -(2 ^ 63) ≤ k ∧ k < 2 ^ 63) (hl : ds.length * k.toNat ≤ sizeLine) : EO X Γ (.BinOp a .Mult b pos) (.lst (List.replicate k.toNat ds).flatten) :=
  eo_of (pe_op op_rep pe_w pe_w) fun F σ G H s Q q => ha F σ G H s _ fun p vs G1 H1 g1 e1 i1 => hb F σ G1 H1 (s.grow g1) _ fun w G2 H2 g2 i2 => by
    cases i2
    exact ⟨p, k, vs, rfl, rfl, g2.h _ _ e1, h1.1, h1.2, by rw [i1.len]; exact hl, fun l hl => q l _ G2 _ ((g1.trans g2).trans (Grow.lay g2.s hl)) upd_same (Evl.fresh_back g2.s hl) (Evl.fresh_back (g1.trans g2).h hl) ((i1.up g2.g).rep _)⟩
end

/-! ### built-ins -/
section
variable {X : Cx} {Γ : List B} {pos p : Pos} {a b : Expr} {e : Expr} {es : List Expr} {x : D} {ds ds' : List D}
theorem ev_cb1 {K : PySem.W.Frag} {r : List V → Hp → VK → Prop} {ta : TA} {z : D} (ha : EvA K Γ ta ds) (hr : ∀ vs G H, Ex G H → IsAll K G vs ds → ∀ Q : VK, (∀ u G' H', Grow G H G' H' → Is K G' u z → Q u H') → r vs H Q) : EvD K Γ (tCB r ta) z := fun F σ G H s Q q =>
  ha F σ G H s _ fun vs G1 H1 g1 i1 => hr vs G1 H1 g1.s i1 Q fun u G2 H2 g2 i2 => q u G2 H2 (g1.trans g2) i2
/-- f(e, ..), f a built-in whose answer hangs on the data alone -/
theorem ed_callB {f : String} {nm : Str} {r : List V → Hp → VK → Prop} {z : D} (hc : CallR X (.builtin f) r) (hg : Gl X nm) (hm : X.mg nm = none) (hv : bootBuiltins nm = some (.builtin f)) (ha : EA X Γ (e :: es) ds)
    (hr : ∀ vs G H, Ex G H → IsAll X.K G vs ds → ∀ Q : VK, (∀ u G' H', Grow G H G' H' → Is X.K G' u z → Q u H') → r vs H Q)
    (hn : nm ≠ "__name__" := by decide) (hdb : (nm == ("__debug__" : Str)) = false := by decide) (he : starEach (e :: es) X.env = (false, eval e X.env) :: starEach es X.env := by exact starEach_ns rfl) (hpl : (backTo pos (starEach es X.env)).any (·.1) = false := by exact plain_ok rfl) :
    ED X Γ (.Call (.Name nm p) (e :: es) [] pos) z := ed_of (pe_callB hc hg hm hv pa_w hn hdb he hpl) (ev_cb1 ha hr)
theorem ed_callTy {f : String} {nm : Str} {r : List V → Hp → VK → Prop} {z : D} (hc : CallR X (.type f) r) (hg : Gl X nm) (hm : X.mg nm = none) (hv : bootBuiltins nm = some (.type f)) (ha : EA X Γ (e :: es) ds)
    (hr : ∀ vs G H, Ex G H → IsAll X.K G vs ds → ∀ Q : VK, (∀ u G' H', Grow G H G' H' → Is X.K G' u z → Q u H') → r vs H Q)
    (hn : nm ≠ "__name__" := by decide) (hdb : (nm == ("__debug__" : Str)) = false := by decide) (he : starEach (e :: es) X.env = (false, eval e X.env) :: starEach es X.env := by exact starEach_ns rfl) (hpl : (backTo pos (starEach es X.env)).any (·.1) = false := by exact plain_ok rfl) :
    ED X Γ (.Call (.Name nm p) (e :: es) [] pos) z := ed_of (pe_callTy hc hg hm hv pa_w hn hdb he hpl) (ev_cb1 ha hr)
theorem ed_lenS {l : List Nat} (hg : Gl X "len") (hm : X.mg "len" = none) (ha : ED X Γ a (.str l)) (he : starEach [a] X.env = (false, eval a X.env) :: starEach [] X.env := by exact starEach_ns rfl) (hpl : (backTo pos (starEach [] X.env)).any (·.1) = false := by exact plain_ok rfl) : ED X Γ (.Call (.Name "len" p) [a] [] pos) (.int l.length) :=
  ed_callB call_len_str hg hm boot_len (ea_cons ha ea_nil he) (fun vs G H ex i Q q => by
    cases i with
    | cons i1 i2 =>
      have ok := i1.strOk
      cases i1
      cases i2
      refine ⟨_, rfl, by rw [S_len]; exact ok.le, ?_⟩
      rw [S_len]
      exact q _ G H (.refl ex) (.int _)) (by decide) (by decide) he hpl
theorem ed_lenT (hg : Gl X "len") (hm : X.mg "len" = none) (ha : ED X Γ a (.tup ds)) (he : starEach [a] X.env = (false, eval a X.env) :: starEach [] X.env := by exact starEach_ns rfl) (hpl : (backTo pos (starEach [] X.env)).any (·.1) = false := by exact plain_ok rfl) : ED X Γ (.Call (.Name "len" p) [a] [] pos) (.int ds.length) :=
  ed_callB call_len_seq hg hm boot_len (ea_cons ha ea_nil he) (fun vs G H ex i Q q => by
    cases i with
    | cons i1 i2 =>
      cases i2
      cases i1 with
      | tup h1 h2 =>
        refine ⟨_, _, rfl, .inr (Evl.ex_t ex h1), ?_⟩
        rw [h2.len]
        exact q _ G H (.refl ex) (.int _)) (by decide) (by decide) he hpl
theorem ed_lenL (hg : Gl X "len") (hm : X.mg "len" = none) (ha : EL X Γ a ds) (he : starEach [a] X.env = (false, eval a X.env) :: starEach [] X.env := by exact starEach_ns rfl) (hpl : (backTo pos (starEach [] X.env)).any (·.1) = false := by exact plain_ok rfl) : ED X Γ (.Call (.Name "len" p) [a] [] pos) (.int ds.length) :=
  ed_of (pe_callB call_len_seq hg hm boot_len (pa_cons pe_w pa_nil he) (by decide) (by decide) he hpl) fun F σ G H s Q q => ha F σ G H s _ fun p vs G1 H1 g1 h1 i1 => by
    refine ⟨p, vs, rfl, .inl (.inl (.inl h1)), ?_⟩
    rw [i1.len]
    exact q _ G1 H1 g1 (.int _)
/-- len of the script -/
theorem ed_lenScr {ns : List Int} (hg : Gl X "len") (hm : X.mg "len" = none) (ha : ED X Γ a (.scr ns)) (he : starEach [a] X.env = (false, eval a X.env) :: starEach [] X.env := by exact starEach_ns rfl) (hpl : (backTo pos (starEach [] X.env)).any (·.1) = false := by exact plain_ok rfl) : ED X Γ (.Call (.Name "len" p) [a] [] pos) (.int ns.length) :=
  ed_callB call_len_seq hg hm boot_len (ea_cons ha ea_nil he) (fun vs G H ex i Q q => by
    cases i with
    | cons i1 i2 =>
      cases i2
      cases i1 with
      | scr h1 =>
        refine ⟨_, _, rfl, .inl (Evl.ex_l ex h1), ?_⟩
        rw [List.length_map]
        exact q _ G H (.refl ex) (.int _)) (by decide) (by decide) he hpl
theorem ed_ixScr {i : Int} {ns : List Int} {n : Int} (ha : ED X Γ a (.scr ns)) (hb : ED X Γ b (.int i)) (h : atI ns i = some n) (hs : PlainIx b := by exact ix_ns rfl) : ED X Γ (.Subscript a b pos) (.int n) :=
  ed_of (pe_ix ix_list pe_w pe_w hs) fun F σ G H s Q q => ha F σ G H s _ fun v G1 H1 g1 i1 => hb F σ G1 H1 (s.grow g1) _ fun w G2 H2 g2 i2 => by
    cases i1 with
    | scr h1 =>
      cases i2
      exact ⟨_, _, i, .int n, rfl, rfl, Evl.ex_l (g2.g.trans g2.s) h1, atI_map h, q _ G2 H2 (g1.trans g2) (.int n)⟩
theorem ed_max2 {i j : Int} (hc : X.calm = true) (hg : Gl X "max") (hm : X.mg "max" = none) (ha : ED X Γ a (.int i)) (hb : ED X Γ b (.int j)) (he : starEach [a, b] X.env = (false, eval a X.env) :: starEach [b] X.env := by exact starEach_ns rfl) (he2 : starEach [b] X.env = (false, eval b X.env) :: starEach [] X.env := by exact starEach_ns rfl) (hpl : (backTo pos (starEach [b] X.env)).any (·.1) = false := by exact plain_ok rfl) : ED X Γ (.Call (.Name "max" p) [a, b] [] pos) (.int (if j > i then j else i)) :=
  ed_callB (call_max2 hc) hg hm (by decide +kernel) (ea_cons ha (ea_cons hb ea_nil he2) he) (fun vs G H ex i Q q => by
    cases i with
    | cons i1 i2 =>
      cases i2 with
      | cons i2 i3 =>
        cases i1
        cases i2
        cases i3
        exact ⟨_, _, rfl, q _ G H (.refl ex) (.int _)⟩) (by decide) (by decide) he hpl
theorem ed_min2 {i j : Int} (hc : X.calm = true) (hg : Gl X "min") (hm : X.mg "min" = none) (ha : ED X Γ a (.int i)) (hb : ED X Γ b (.int j)) (he : starEach [a, b] X.env = (false, eval a X.env) :: starEach [b] X.env := by exact starEach_ns rfl) (he2 : starEach [b] X.env = (false, eval b X.env) :: starEach [] X.env := by exact starEach_ns rfl) (hpl : (backTo pos (starEach [b] X.env)).any (·.1) = false := by exact plain_ok rfl) : ED X Γ (.Call (.Name "min" p) [a, b] [] pos) (.int (if j < i then j else i)) :=
  ed_callB (call_min2 hc) hg hm (by decide +kernel) (ea_cons ha (ea_cons hb ea_nil he2) he) (fun vs G H ex i Q q => by
    cases i with
    | cons i1 i2 =>
      cases i2 with
      | cons i2 i3 =>
        cases i1
        cases i2
        cases i3
        exact ⟨_, _, rfl, q _ G H (.refl ex) (.int _)⟩) (by decide) (by decide) he hpl
theorem ed_all {bs : List Bool} (hc : X.calm = true) (hg : Gl X "all") (hm : X.mg "all" = none) (ha : EL X Γ a (bs.map D.bl)) (he : starEach [a] X.env = (false, eval a X.env) :: starEach [] X.env := by exact starEach_ns rfl) (hpl : (backTo pos (starEach [] X.env)).any (·.1) = false := by exact plain_ok rfl) : ED X Γ (.Call (.Name "all" p) [a] [] pos) (.bl (bs.all id)) :=
  ed_of (pe_callB (cr_all hc) hg hm (by decide +kernel) (pa_cons pe_w pa_nil he) (by decide) (by decide) he hpl) fun F σ G H s Q q => ha F σ G H s _ fun p vs G1 H1 g1 h1 i1 => by
    have e := i1.bls
    subst e
    exact ⟨p, bs, rfl, .inl (.inl h1), q _ G1 H1 g1 (.bl _)⟩
/-- isinstance(x, T), T a built-in type -/
def tyD : D → Option String
  | .non => some "NoneType" | .bl _ => some "bool" | .int _ => some "int" | .str _ => some "str" | .lst _ => some "list" | .tup _ => some "tuple" | .dct _ => some "dict" | _ => none
theorem tyx {K : PySem.W.Frag} {G H : Hp} (ex : Ex G H) {v : V} {d : D} {t : String} (h : Is K G v d) (e : tyD d = some t) : TyX K H v (.type t) := by
  cases h with
  | non => cases e; exact .base .non
  | bl b => cases e; exact .base (.bl b)
  | int b => cases e; exact .base (.int b)
  | str b => cases e; exact .base (.str _)
  | ty b => cases e
  | lst h1 h2 => cases e; exact .base (.lst (ex _ _ h1))
  | tup h1 h2 =>
    cases e
    rcases Evl.ex_t ex h1 with (h1 | ⟨o, h1⟩) | ⟨o, its, n, h1, hc, _⟩
    · exact .base (.tup h1)
    · exact .fTuple h1
    · exact .kTuple h1 hc
  | dct h1 h2 => cases e; exact .base (.dK (ex _ _ h1))
  | ins h0 h1 h2 => cases e
  | scr h1 => cases e
  | fn h1 => cases e
  | exv h0 h1 hu h2 h3 h4 => cases e
theorem ed_isi {t n : String} {r : Bool} (hg : Gl X "isinstance") (hm : X.mg "isinstance" = none) (ha : ED X Γ a x) (hb : ED X Γ b (.ty n)) (ht : tyD x = some t) (hk : kitB t n = some r) (he : starEach [a, b] X.env = (false, eval a X.env) :: starEach [b] X.env := by exact starEach_ns rfl) (he2 : starEach [b] X.env = (false, eval b X.env) :: starEach [] X.env := by exact starEach_ns rfl)
    (hpl : (backTo pos (starEach [b] X.env)).any (·.1) = false := by exact plain_ok rfl) : ED X Γ (.Call (.Name "isinstance" p) [a, b] [] pos) (.bl r) :=
  ed_callB call_isi hg hm (by decide +kernel) (ea_cons ha (ea_cons hb ea_nil he2) he) (fun vs G H ex i Q q => by
    cases i with
    | cons i1 i2 =>
      cases i2 with
      | cons i2 i3 =>
        cases i2
        cases i3
        exact ⟨_, _, _, _, r, rfl, .ty n, tyx ex i1 ht, kit_ty hk, q _ G H (.refl ex) (.bl r)⟩) (by decide) (by decide) he hpl
end

/-! ### methods of texts -/
section
variable {X : Cx} {Γ : List B} {pos apos : Pos} {a b : Expr} {ds : List D}
theorem ed_join {l : List Nat} {ls : List (List Nat)} (ha : ED X Γ a (.str l)) (hb : EL X Γ b (ls.map D.str)) (hz : (ls.map (·.length)).sum + ls.length * l.length ≤ LMax)
    (hbase : attributeBase a "join" X.env (eval a X.env) = eval a X.env := by exact ab_ns rfl) (hline : (apos.endLine == pos.line) = true := by rfl)
    (hfew : ((backTo pos (starEach (b :: []) X.env)).all (fun x => !x.1) && (backToKw pos (keywordEach [] X.env)).all (fun x => x.1.isSome) && decide ((b :: ([] : List Expr)).length + ([] : List Keyword).length + (if ([] : List Keyword).isEmpty then 0 else 1) < 30)) = true := by exact few_ok rfl)
    (hs : starEach (b :: []) X.env = (false, eval b X.env) :: starEach [] X.env := by exact starEach_ns rfl) (hplain : (backTo pos (starEach [] X.env)).any (·.1) = false := by exact plain_ok rfl) :
    ED X Γ (.Call (.Attribute a "join" apos) [b] [] pos) (.str (joinS l ls)) :=
  ed_of (pe_bm PySem.F.plainAttrs_str PySem.F.slot_str_join PySem.F.type_str_join mt_join pe_w (pa_cons pe_w pa_nil hs) hbase hfew hline hs hplain) fun F σ G H s Q q => ha F σ G H s _ fun v G1 H1 g1 i1 => by
    have a := i1.strOk
    cases i1
    refine ⟨rfl, hb F σ G1 H1 (s.grow g1) _ fun p vs G2 H2 g2 h2 i2 => ?_⟩
    have b := i2.strOk
    have e := i2.strs
    subst e
    refine ⟨_, p, ls.map S, rfl, rfl, .inl (.inl (.inl ?_)), ?_, ?_⟩
    · rw [h2, List.map_map]
      rfl
    · rw [List.map_map, List.length_map, S_len]
      have : (ls.map ((fun x : Str => x.length) ∘ S)) = ls.map (·.length) := List.map_congr_left fun x _ => S_len x
      rw [this]
      exact Nat.le_trans hz (by unfold LMax; decide)
    · exact q _ G2 H2 (g1.trans g2) (.str _ (strOk_join a b hz))
theorem eo_split {l : List Nat} {c : Nat} (ha : ED X Γ a (.str l)) (hb : ED X Γ b (.str [c])) (hc : c < 256)
    (hbase : attributeBase a "split" X.env (eval a X.env) = eval a X.env := by exact ab_ns rfl) (hline : (apos.endLine == pos.line) = true := by rfl)
    (hfew : ((backTo pos (starEach (b :: []) X.env)).all (fun x => !x.1) && (backToKw pos (keywordEach [] X.env)).all (fun x => x.1.isSome) && decide ((b :: ([] : List Expr)).length + ([] : List Keyword).length + (if ([] : List Keyword).isEmpty then 0 else 1) < 30)) = true := by exact few_ok rfl)
    (hs : starEach (b :: []) X.env = (false, eval b X.env) :: starEach [] X.env := by exact starEach_ns rfl) (hplain : (backTo pos (starEach [] X.env)).any (·.1) = false := by exact plain_ok rfl) :
    EO X Γ (.Call (.Attribute a "split" apos) [b] [] pos) (.lst ((splitS l [c]).map D.str)) :=
  eo_of (pe_bm PySem.F.plainAttrs_str PySem.F.slot_str_split PySem.F.type_str_split mt_split pe_w (pa_cons pe_w pa_nil hs) hbase hfew hline hs hplain) fun F σ G H s Q q => ha F σ G H s _ fun v G1 H1 g1 i1 => by
    have a := i1.strOk
    cases i1
    refine ⟨rfl, hb F σ G1 H1 (s.grow g1) _ fun w G2 H2 g2 i2 => ?_⟩
    cases i2
    refine ⟨_, _, rfl, rfl, rfl, by rw [S_len]; exact a.line, fun r hr => ?_⟩
    · refine q r _ G2 _ ((g1.trans g2).trans (Grow.lay g2.s hr)) upd_same (Evl.fresh_back g2.s hr) (Evl.fresh_back (g1.trans g2).h hr) ?_
      have e : (Txt.split (S l) (S [c])).map V.str = (splitS l [c]).map (fun l => V.str (S l)) := by
        unfold splitS
        rw [List.map_map]
        exact List.map_congr_left fun x _ => by simp [S]
      show IsAll _ _ ((Txt.split (S l) (S [c])).map V.str) _
      rw [e]
      exact IsAll.ofStrs _ (a.split hc)
end
end Sd

namespace Sd
open PySem PySem.Spec PyProof.Rows L2

/-! ### what is walked -/
def ItD (K : PySem.W.Frag) (Γ : List B) (wi : TI) (xs : List D) : Prop := ∀ F σ G H, Stt K F Γ σ G H → ∀ R : It → Hp → Prop,
  (∀ (J : It) (Gd : Hp → Prop) (Y : Nat → Hp → V → Hp → Prop) G' H', Grow G H G' H' → Walk J xs.length Gd Y → (∀ G2 H2, Ex G' G2 → Ex G2 H2 → Gd H2) →
    (∀ i G2 H2 v H3, Ex G' G2 → Ex G2 H2 → Y i H2 v H3 → ∃ G3 x, xs[i]? = some x ∧ Grow G2 H2 G3 H3 ∧ Is K G3 v x) → R J H') → wi σ H R
def IT (X : Cx) (Γ : List B) (tg iter : Expr) (xs : List D) : Prop := ∃ wi, PI X tg iter wi ∧ ItD X.K Γ wi xs
section
variable {X : Cx} {Γ : List B} {tg a b : Expr} {pos p : Pos} {ds ds' : List D}
theorem it_list (h : EL X Γ a ds) (hf : ∀ F σ G H, Stt X.K F Γ σ G H → ∀ Q : VK, (∀ p vs G' H', Grow G H G' H' → G' p = some (.lst vs) → IsAll X.K G' vs ds → Q (.ref p) H') → wE X a σ H Q) : IT X Γ tg a ds :=
  ⟨_, pi_list pe_w, fun F σ G H s R q => hf F σ G H s _ fun p vs G1 H1 g1 h1 i1 => by
    have hl := i1.len
    refine ⟨p, rfl, ⟨vs, .inl (.inl (g1.s _ _ h1))⟩, q _ _ _ G1 H1 g1 (hl ▸ walk_list (K := X.K) (a := p) (xs := vs)) (fun G2 H2 e1 e2 => .inl (.inl (e2 _ _ (e1 _ _ h1)))) fun i G2 H2 v H3 e1 e2 y => ?_⟩
    obtain ⟨rfl, hv⟩ := y
    obtain ⟨d, h2, h3⟩ := i1.getV hv
    exact ⟨G2, d, h2, .refl e2, h3.up e1⟩⟩
theorem it_lst (h : ED X Γ a (.lst ds)) : IT X Γ tg a ds := it_list h.el fun F σ G H s Q q => h F σ G H s _ fun v G1 H1 g1 i1 => by
  cases i1 with
  | lst h1 h2 => exact q _ _ _ _ g1 h1 h2
theorem it_tup (h : ED X Γ a (.tup ds)) : IT X Γ tg a ds :=
  ⟨_, pi_tup pe_w, fun F σ G H s R q => h F σ G H s _ fun v G1 H1 g1 i1 => by
    cases i1 with
    | @tup p vs _ h1 i1 =>
      have hl := i1.len
      refine ⟨p, rfl, ⟨vs, Evl.ex_t g1.s h1⟩, q _ _ _ G1 H1 g1 (hl ▸ walk_tup (K := X.K) (a := p) (xs := vs)) (fun G2 H2 e1 e2 => Evl.ex_t (e1.trans e2) h1) fun i G2 H2 v H3 e1 e2 y => ?_⟩
      obtain ⟨rfl, hv⟩ := y
      obtain ⟨d, h2, h3⟩ := i1.getV hv
      exact ⟨G2, d, h2, .refl e2, h3.up e1⟩⟩
theorem it_str {l : List Nat} (h : ED X Γ a (.str l)) : IT X Γ tg a (l.map fun c => D.str [c]) :=
  ⟨_, pi_str pe_w, fun F σ G H s R q => h F σ G H s _ fun v G1 H1 g1 i1 => by
    have ok := i1.strOk
    cases i1
    have hl : (S l).cps.size = (l.map fun c => D.str [c]).length := by simp [S]
    refine ⟨S l, rfl, q _ _ _ G1 H1 g1 (hl ▸ walk_str (z := S l)) (fun _ _ _ _ => trivial) fun i G2 H2 v H3 e1 e2 y => ?_⟩
    obtain ⟨rfl, c, hc, rfl⟩ := y
    have hc' : l[i]? = some c := by simpa [S] using hc
    refine ⟨G2, .str [c], ?_, .refl e2, .str [c] (ok.one (List.mem_of_getElem? hc'))⟩
    rw [List.getElem?_map, hc']
    rfl⟩
def rints (lo : Int) (n : Nat) : List Int := (List.range n).map fun (i : Nat) => lo + (i : Int)
theorem rints_get {lo : Int} {n i : Nat} (h : i < n) : (rints lo n)[i]? = some (lo + (i : Int)) := by
  unfold rints
  rw [List.getElem?_map, List.getElem?_range h]
  rfl
theorem rints_len (lo : Int) (n : Nat) : (rints lo n).length = n := by
  unfold rints
  rw [List.length_map, List.length_range]
theorem rints_mem {lo x : Int} {n : Nat} (h : x ∈ rints lo n) : lo ≤ x ∧ x < lo + n := by
  unfold rints at h
  obtain ⟨i, hi, rfl⟩ := List.mem_map.mp h
  have := List.mem_range.mp hi
  omega
theorem walk_ints {J : It} {lo : Int} {n : Nat} (w : Walk J n (fun _ => True) (YFn fun i => .int (lo + i))) : Walk J ((rints lo n).map D.int).length (fun _ => True) (fun i H v H' => H' = H ∧ i < n ∧ v = .int (lo + i)) := by
  have hl : ((rints lo n).map D.int).length = n := by rw [List.length_map, rints_len]
  rw [hl]
  exact w.mono (fun _ h => h) fun i H x H' hi _ y => ⟨y.1, hi, y.2⟩
theorem it_rng {wi : TI} {lo : Int} {n : Nat} {J : It} (w : Walk J n (fun _ => True) (YFn fun i => .int (lo + i))) {K : PySem.W.Frag} {F : Hp} {σ : L2.St} {G H G1 H1 : Hp} (s : Stt K F Γ σ G H) (g : Grow G H G1 H1) {R : It → Hp → Prop}
    (q : ∀ (J : It) (Gd : Hp → Prop) (Y : Nat → Hp → V → Hp → Prop) G' H', Grow G H G' H' → Walk J ((rints lo n).map D.int).length Gd Y → (∀ G2 H2, Ex G' G2 → Ex G2 H2 → Gd H2) →
      (∀ i G2 H2 v H3, Ex G' G2 → Ex G2 H2 → Y i H2 v H3 → ∃ G3 x, ((rints lo n).map D.int)[i]? = some x ∧ Grow G2 H2 G3 H3 ∧ Is K G3 v x) → R J H') : R J H1 :=
  q J _ _ G1 H1 g (walk_ints w) (fun _ _ _ _ => trivial) fun i G2 H2 v H3 e1 e2 y => by
    obtain ⟨rfl, hi, rfl⟩ := y
    exact ⟨G2, .int (lo + i), by rw [List.getElem?_map, rints_get hi]; rfl, .refl e2, .int _⟩
theorem it_range1 {n : Int} (hg : Gl X "range") (hm : X.mg "range" = none) (ha : ED X Γ a (.int n)) (hb : -(2 ^ 62) ≤ n ∧ n < 2 ^ 62) (hs : starEach [a] X.env = [(false, eval a X.env)] := by exact starEach_ns rfl) : IT X Γ tg (.Call (.Name "range" p) [a] [] pos) ((rints 0 n.toNat).map D.int) :=
  ⟨_, pi_range1 hg hm pa_w hs, fun F σ G H s R q => (ea_cons ha ea_nil hs) F σ G H s _ fun vs G1 H1 g1 i1 => by
    cases i1 with
    | cons i1 i2 =>
      cases i1
      cases i2
      exact ⟨n, rfl, hb.1, hb.2, it_rng (wi := iRng1 tNil) walk_range s g1 q⟩⟩
theorem it_range2 {m n : Int} (hg : Gl X "range") (hm : X.mg "range" = none) (ha : ED X Γ a (.int m)) (hb : ED X Γ b (.int n)) (h1 : -(2 ^ 62) ≤ m ∧ m < 2 ^ 62) (h2 : -(2 ^ 62) ≤ n ∧ n < 2 ^ 62) (hs : starEach [a, b] X.env = [(false, eval a X.env), (false, eval b X.env)] := by exact starEach_ns2 rfl) (hs2 : starEach [b] X.env = [(false, eval b X.env)] := by exact starEach_ns rfl) :
    IT X Γ tg (.Call (.Name "range" p) [a, b] [] pos) ((rints m (n - m).toNat).map D.int) :=
  ⟨_, pi_range2 hg hm pa_w hs hs2, fun F σ G H s R q => (ea_cons ha (ea_cons hb ea_nil hs2) (by rw [hs, hs2])) F σ G H s _ fun vs G1 H1 g1 i1 => by
    cases i1 with
    | cons i1 i2 =>
      cases i2 with
      | cons i2 i3 =>
        cases i1
        cases i2
        cases i3
        exact ⟨m, n, rfl, ⟨h1.1, h1.2, h2.1, h2.2⟩, it_rng (wi := iRng1 tNil) walk_range s g1 q⟩⟩
/-- a new pair at each turn -/
theorem pair_new {K : PySem.W.Frag} {G2 H2 : Hp} {T : Addr} {x y : V} {d e : D} (hT : H2 T = none) (ex : Ex G2 H2) (h1 : Is K G2 x d) (h2 : Is K G2 y e) : Is K (upd G2 T (.tup [x, y])) (.ref T) (.tup [d, e]) :=
  .tup (.inl (.inl upd_same)) (IsAll.up (.cons h1 (.cons h2 .nil)) (Evl.Ex.new (Evl.fresh_back ex hT)))
theorem it_zip {elts : List Expr} {kk : Nat} {tpos : Pos} (hg : Gl X "zip") (hm : X.mg "zip" = none) (ha : ED X Γ a (.lst ds)) (hb : ED X Γ b (.lst ds')) (hs : starEach [a, b] X.env = (false, eval a X.env) :: starEach [b] X.env := by exact starEach_ns rfl) (hs2 : starEach [b] X.env = (false, eval b X.env) :: starEach [] X.env := by exact starEach_ns rfl) (hpl : (backTo pos (starEach [b] X.env)).any (·.1) = false := by exact plain_ok rfl) :
    IT X Γ (.Tuple elts kk tpos) (.Call (.Name "zip" p) [a, b] [] pos) ((ds.zip ds').map fun z => .tup [z.1, z.2]) :=
  ⟨_, pi_zip hg hm pa_w hs hpl, fun F σ G H s R q => (ea_cons ha (ea_cons hb ea_nil hs2) hs) F σ G H s _ fun vs G1 H1 g1 i1 => by
    cases i1 with
    | cons i1 i2 =>
      cases i2 with
      | cons i2 i3 =>
        cases i3
        cases i1 with
        | @lst pa va _ ha1 ha2 =>
          cases i2 with
          | @lst pb vb _ hb1 hb2 =>
            have hl : min va.length vb.length = ((ds.zip ds').map fun z => D.tup [z.1, z.2]).length := by rw [List.length_map, List.length_zip, ha2.len, hb2.len]
            refine ⟨pa, pb, va, vb, rfl, .inl (.inl (g1.s _ _ ha1)), .inl (.inl (g1.s _ _ hb1)), q _ _ _ G1 H1 g1 (hl ▸ walk_zip (K := X.K) (a := pa) (b := pb) (xs := va) (ys := vb) rfl) (fun G2 H2 e1 e2 => ⟨.inl (.inl (e2 _ _ (e1 _ _ ha1))), .inl (.inl (e2 _ _ (e1 _ _ hb1)))⟩) fun i G2 H2 v H3 e1 e2 y => ?_⟩
            obtain ⟨T, x, y, rfl, hT, rfl, hx, hy⟩ := y
            obtain ⟨d, k1, k2⟩ := ha2.getV hx
            obtain ⟨e, k3, k4⟩ := hb2.getV hy
            refine ⟨_, .tup [d, e], ?_, Grow.new e2 hT, pair_new hT e2 (k2.up e1) (k4.up e1)⟩
            rw [List.getElem?_map, (List.getElem?_zip_eq_some (z := (d, e))).mpr ⟨k1, k3⟩]
            rfl⟩
theorem it_enum {elts : List Expr} {kk : Nat} {tpos : Pos} (hg : Gl X "enumerate") (hm : X.mg "enumerate" = none) (ha : ED X Γ a (.lst ds)) (hs : starEach [a] X.env = [(false, eval a X.env)] := by exact starEach_ns rfl) :
    IT X Γ (.Tuple elts kk tpos) (.Call (.Name "enumerate" p) [a] [] pos) ((ds.zipIdx).map fun z => .tup [.int (z.2 : Int), z.1]) :=
  ⟨_, pi_enum hg hm pa_w hs, fun F σ G H s R q => (ea_cons ha ea_nil hs) F σ G H s _ fun vs G1 H1 g1 i1 => by
    cases i1 with
    | cons i1 i2 =>
      cases i2
      cases i1 with
      | @lst pa va _ ha1 ha2 =>
        have hl : va.length = ((ds.zipIdx).map fun z => D.tup [.int (z.2 : Int), z.1]).length := by rw [List.length_map, List.length_zipIdx, ha2.len]
        refine ⟨pa, va, rfl, .inl (.inl (g1.s _ _ ha1)), q _ _ _ G1 H1 g1 (hl ▸ walk_enum (K := X.K) (a := pa) (xs := va)) (fun G2 H2 e1 e2 => .inl (.inl (e2 _ _ (e1 _ _ ha1)))) fun i G2 H2 v H3 e1 e2 y => ?_⟩
        obtain ⟨T, x, y, rfl, hT, rfl, hx, hy⟩ := y
        cases hx
        obtain ⟨d, k1, k2⟩ := ha2.getV hy
        refine ⟨_, .tup [.int (i : Nat), d], ?_, Grow.new e2 hT, pair_new hT e2 (.int _) (k2.up e1)⟩
        rw [List.getElem?_map, List.getElem?_zipIdx, k1]
        simp⟩
end

/-! ### targets -/
def setMany (σ : L2.St) : List Nat → List V → L2.St
  | j :: js, w :: ws => setMany (σ.set j (some w)) js ws
  | _, _ => σ
def TgD (K : PySem.W.Frag) (g : TG) (js : List Nat) (Γ : List B) (x : D) (Γ' : List B) : Prop := ∀ F σ G H v, Stt K F Γ σ G H → Is K G v x → ∀ Q : L2.St → Hp → Prop, (∀ ws, Stt K F Γ' (setMany σ js ws) G H → Q (setMany σ js ws) H) → g v σ H Q
def TgsD (K : PySem.W.Frag) (g : TGs) (js : List Nat) (Γ : List B) (xs : List D) (Γ' : List B) : Prop := ∀ F σ G H vs, Stt K F Γ σ G H → IsAll K G vs xs → ∀ Q : L2.St → Hp → Prop, (∀ ws, Stt K F Γ' (setMany σ js ws) G H → Q (setMany σ js ws) H) → g vs σ H Q
section
variable {K : PySem.W.Frag} {Γ Γ' : List B} {x : D} {xs : List D} {js : List Nat}
theorem tg_name (j : Nat) : TgD K (gName j) [j] Γ x (Γ.set j (.d x)) := fun F σ G H v s i Q q => q [v] (s.set j i)
theorem tgs_nil : TgsD K gNil [] Γ [] Γ := fun F σ G H vs s i Q q => by
  cases i
  exact ⟨rfl, q [] s⟩
theorem tgs_cons {u : TGs} (j : Nat) (h : TgsD K u js (Γ.set j (.d x)) xs Γ') : TgsD K (gCons (gName j) u) (j :: js) Γ (x :: xs) Γ' := fun F σ G H vs s i Q q => by
  cases i with
  | @cons v vs _ _ i1 i2 => exact ⟨v, vs, rfl, h F _ G H vs (s.set j i1) i2 _ fun ws s' => q (v :: ws) s'⟩
theorem tg_tup {n : Nat} {u : TGs} (h : TgsD K u js Γ xs Γ') (hl : xs.length = n) : TgD K (gTup K n u) js Γ (.tup xs) Γ' := fun F σ G H v s i Q q => by
  cases i with
  | tup h1 h2 => exact ⟨_, _, rfl, Evl.ex_t s.sub h1, by rw [h2.len]; exact hl, h F σ G H _ s h2 Q q⟩
end

/-! ### comprehensions -/
def wipeB (Γ : List B) : List Nat → List B
  | [] => Γ
  | v :: vs => (wipeB Γ vs).set v .un
theorem Stt.wipe {K : PySem.W.Frag} {F : Hp} {Γ : List B} {σ : L2.St} {G H : Hp} (s : Stt K F Γ σ G H) : ∀ vs : List Nat, Stt K F (wipeB Γ vs) (L2.wipe σ vs) G H
  | [] => s
  | v :: vs => (s.wipe vs).unset v none
theorem wipe_get (σ : L2.St) (i : Nat) : ∀ vs : List Nat, (L2.wipe σ vs)[i]? = if i ∈ vs then (if i < σ.length then some none else none) else σ[i]?
  | [] => by simp [L2.wipe]
  | v :: vs => by
    unfold L2.wipe
    by_cases h : v = i
    · subst h
      simp only [List.mem_cons, true_or, if_true]
      by_cases hl : v < σ.length
      · rw [List.getElem?_set_self (by rw [wipe_length]; exact hl), if_pos hl]
      · rw [List.getElem?_eq_none (by rw [List.length_set, wipe_length]; omega), if_neg hl]
    · rw [List.getElem?_set_ne h, wipe_get σ i vs]
      simp only [List.mem_cons, Ne.symm h, false_or]
theorem wipe_set {σ : L2.St} {j : Nat} {y : Option V} {vs : List Nat} (h : j ∈ vs) : L2.wipe (σ.set j y) vs = L2.wipe σ vs := by
  apply List.ext_getElem?
  intro i
  rw [wipe_get, wipe_get, List.length_set]
  by_cases hi : i ∈ vs
  · rw [if_pos hi, if_pos hi]
  · rw [if_neg hi, if_neg hi, List.getElem?_set_ne (by rintro rfl; exact hi h)]
theorem wipe_wipe {σ : L2.St} {vs : List Nat} : L2.wipe (L2.wipe σ vs) vs = L2.wipe σ vs := by
  apply List.ext_getElem?
  intro i
  rw [wipe_get, wipe_length]
  by_cases hi : i ∈ vs
  · rw [if_pos hi, wipe_get, if_pos hi]
  · rw [if_neg hi]
theorem wipe_many {vs : List Nat} : ∀ {js : List Nat} {ws : List V} {σ : L2.St}, (∀ j ∈ js, j ∈ vs) → L2.wipe (setMany σ js ws) vs = L2.wipe σ vs
  | [], _, _, _ => by simp [setMany]
  | _ :: _, [], _, _ => by simp [setMany]
  | j :: js, w :: ws, σ, h => by
    unfold setMany
    rw [wipe_many (fun i hi => h i (List.mem_cons_of_mem _ hi)), wipe_set (h j List.mem_cons_self)]

abbrev blkX (X : Cx) (scope : Scope) (s : Shared) (H : Hp) (C : Addr) (cl : List (Str × Addr)) (fp : List Addr) : Cx := X.blk s H scope (compEnvC scope cl C X.env) fp
/-- the clause's tests -/
def ETs (X : Cx) (scope : Scope) (Γ : List B) (ifs : List Expr) (k : Bool) : Prop := match ifs with
  | [] => k = true
  | [c] => ∀ s H C cl fp, ET (blkX X scope s H C cl fp) Γ c k
  | _ => False
/-- a comprehension that comes to a list -/
def LcOk (X : Cx) (Γ : List B) (elt tg iter : Expr) (ifs : List Expr) (scope : Scope) (own : List (Str × Nat)) (o : OO) : Prop :=
  ∃ (wi : TI) (g : TG) (tt : TT) (te : TE), PI X tg iter wi ∧ BlkOk X.N X.env.scope scope own ∧ (∀ s H C cl fp, PG (blkX X scope s H C cl fp) tg g) ∧ (∀ s H C cl fp, PTs (blkX X scope s H C cl fp) ifs tt) ∧ (∀ s H C cl fp, PE (blkX X scope s H C cl fp) elt te) ∧
    EvO X.K Γ (tLc wi g tt te (own.map (·.2))) o
theorem lc_ok {X : Cx} {Γ : List B} {elt tg iter : Expr} {ifs : List Expr} {scope : Scope} {own : List (Str × Nat)} {g : TG} {js : List Nat} {Yt τ : Type} {encY : Yt → D} {enc : τ → D} (ys : List Yt) (p : Yt → Bool) (f : Yt → τ)
    (hi : IT X Γ tg iter (ys.map encY)) (ok : BlkOk X.N X.env.scope scope own) (hg : ∀ s H C cl fp, PG (blkX X scope s H C cl fp) tg g) (hj : ∀ j ∈ js, j ∈ own.map (·.2)) (hz : ys.length < sizeLine) (Γe : Yt → List B)
    (htg : ∀ y, y ∈ ys → TgD X.K g js (wipeB Γ (own.map (·.2))) (encY y) (Γe y)) (ht : ∀ y, y ∈ ys → ETs X scope (Γe y) ifs (p y)) (he : ∀ y, y ∈ ys → p y = true → ∀ s H C cl fp, ED (blkX X scope s H C cl fp) (Γe y) elt (enc (f y)))
    (hifs : ifs.length ≤ 1 := by decide) : LcOk X Γ elt tg iter ifs scope own (.lst (((ys.filter p).map f).map enc)) := by
  obtain ⟨wi, hi1, hi2⟩ := hi
  -- the tests
  obtain ⟨tt, ht1, ht2⟩ : ∃ tt : TT, (∀ s H C cl fp, PTs (blkX X scope s H C cl fp) ifs tt) ∧ ∀ y, y ∈ ys → EvT X.K (Γe y) tt (p y) := by
    match ifs, hifs, ht with
    | [], _, ht => exact ⟨tYes, fun s H C cl fp => pts_nil, fun y hy F σ G H st Q q => by
        have e : p y = true := ht y hy
        rw [e] at q
        exact q G H (.refl st.sub)⟩
    | [c], _, ht => exact ⟨fun σ H Q => ∀ s H' C cl fp, WT (blkX X scope s H' C cl fp) c σ H Q, fun s H C cl fp => pts_one ⟨fun pins sh σ H1 Q I h => (h s H C cl fp).run pins sh I⟩, fun y hy F σ G H st Q q s H' C cl fp => (show ET (blkX X scope s H' C cl fp) (Γe y) c (p y) from (show ∀ s H C cl fp, ET (blkX X scope s H C cl fp) (Γe y) c (p y) from ht y hy) s H' C cl fp) F σ G H st Q q⟩
  obtain ⟨te, he1, he2⟩ : ∃ te : TE, (∀ s H C cl fp, PE (blkX X scope s H C cl fp) elt te) ∧ ∀ y, y ∈ ys → p y = true → EvD X.K (Γe y) te (enc (f y)) :=
    ⟨fun σ H Q => ∀ s H' C cl fp, WE (blkX X scope s H' C cl fp) elt σ H Q, fun s H C cl fp => ⟨fun pins sh σ H1 Q I h => (h s H C cl fp).run pins sh I⟩, fun y hy hp F σ G H st Q q s H' C cl fp => he y hy hp s H' C cl fp F σ G H st Q q⟩
  refine ⟨wi, g, tt, te, hi1, ok, hg, ht1, he1, ?_⟩
  intro F σ G H st Q q
  refine hi2 F σ G H st _ fun J Gd Y G1 H1 g1 W hGd hY Dl hD => ?_
  -- the word: behind i turns the list at Dl holds what the first i items gave
  have hlen : (ys.map encY).length = ys.length := List.length_map _
  rw [hlen] at W
  refine lc_it (g := g) (tt := tt) (te := te) (vs := own.map (·.2)) (σ := σ) (H1 := H1) (D := Dl) (Qd := fun H => Q (.ref Dl) H) W (fun i H' => ∃ G' vs, Grow G1 H1 G' H' ∧ G' Dl = none ∧ H' Dl = some (.lst vs) ∧ IsAll X.K G' vs ((((ys.take i).filter p).map f).map enc)) ?_ (fun i H' _ ⟨G', _, gr, _⟩ => hGd G' H' gr.g gr.s) ?_ ?_
  · exact ⟨G1, [], Grow.lay g1.s hD, Evl.fresh_back g1.s hD, upd_same, .nil⟩
  · rintro i x H2 H3 hi ⟨G2, vs, gr, nD, hDl, iv⟩ hy
    obtain ⟨G3, xd, hx, gr3, ix⟩ := hY i G2 H2 x H3 gr.g gr.s hy
    rw [List.getElem?_map] at hx
    cases hyi : ys[i]? with
    | none =>
      rw [hyi] at hx
      cases hx
    | some y =>
      rw [hyi] at hx
      cases hx
      have hmem : y ∈ ys := List.mem_of_getElem? hyi
      have htake : ys.take (i + 1) = ys.take i ++ [y] := by
        rw [List.take_succ, hyi]
        rfl
      have st3 : Stt X.K F Γ σ G3 H3 := st.grow ((g1.trans gr).trans gr3)
      have hlt : vs.length < sizeLine := by
        rw [iv.len, List.length_map, List.length_map]
        have h1 := List.length_filter_le p (ys.take i)
        have h2 := List.length_take_le i ys
        omega
      refine htg y hmem F _ G3 H3 x (st3.wipe _) ix _ fun ws st4 => ⟨?_, ?_⟩
      · rw [wipe_many hj, wipe_wipe]
      · refine ht2 y hmem F _ G3 H3 st4 _ fun G4 H4 gr4 => ?_
        have grw : Grow G1 H1 G4 H4 := (gr.trans gr3).trans gr4
        have nD4 : G4 Dl = none := gr4.f Dl _ (gr3.h _ _ hDl) (gr3.f Dl _ hDl nD)
        have hD4 : H4 Dl = some (.lst vs) := gr4.h _ _ (gr3.h _ _ hDl)
        have iv4 := iv.up (gr3.g.trans gr4.g)
        cases hp : p y with
        | false =>
          show ∃ G' vs, _
          refine ⟨G4, vs, grw, nD4, hD4, ?_⟩
          rw [htake, List.filter_append]
          simp only [List.filter_cons, hp, List.filter_nil, List.append_nil, Bool.false_eq_true, if_false]
          exact iv4
        | true =>
          refine he2 y hmem hp F _ G4 H4 (st4.grow gr4) _ fun u G5 H5 gr5 i5 => ?_
          have hD5 : H5 Dl = some (.lst vs) := gr5.h _ _ hD4
          have nD5 : G5 Dl = none := gr5.f Dl _ hD4 nD4
          refine ⟨vs, hD5, hlt, G5, vs ++ [u], ⟨grw.g.trans gr5.g, fun b o e => ?_, fun b o e => ?_, fun b o e n => gr5.f b o (grw.h b o e) (grw.f b o e n)⟩, nD5, upd_same, ?_⟩
          · rw [upd_ne (ne_of_none e hD)]
            exact gr5.h b o (grw.h b o e)
          · rw [upd_ne (ne_of_none e nD5)]
            exact gr5.s b o e
          · rw [htake, List.filter_append]
            simp only [List.filter_cons, hp, List.filter_nil, if_true, List.map_append, List.map_cons, List.map_nil]
            exact (iv4.up gr5.g).app (.cons i5 .nil)
  · rintro H' ⟨G', vs, gr, nD, hDl, iv⟩
    rw [List.take_length] at iv
    exact q Dl _ G' H' (g1.trans gr) hDl nD (Evl.fresh_back g1.h hD) iv
theorem eo_lc {X : Cx} {Γ : List B} {elt tg iter : Expr} {ifs : List Expr} {scope : Scope} {own : List (Str × Nat)} {pos : Pos} {o : OO} (hc : X.calm = true) (hN : X.N.Nodup) (h : LcOk X Γ elt tg iter ifs scope own o) (hs : ∀ x, foldedSetIterable iter X.env x = pure x := by exact fs_ns rfl) :
    EO X Γ (.ListComp elt [⟨tg, iter, ifs, 0⟩] scope pos) o := by
  obtain ⟨wi, g, tt, te, h1, h2, h3, h4, h5, h6⟩ := h
  exact eo_of (pe_lc hc hN h1 h2 h3 h4 h5 hs) h6
theorem filter_tt {α : Type} (xs : List α) : xs.filter (fun _ => true) = xs := List.filter_eq_self.mpr fun _ _ => rfl
/-- .. without tests -/
theorem lc_ok0 {X : Cx} {Γ : List B} {elt tg iter : Expr} {scope : Scope} {own : List (Str × Nat)} {g : TG} {js : List Nat} {Yt τ : Type} {encY : Yt → D} {enc : τ → D} (ys : List Yt) (f : Yt → τ)
    (hi : IT X Γ tg iter (ys.map encY)) (ok : BlkOk X.N X.env.scope scope own) (hg : ∀ s H C cl fp, PG (blkX X scope s H C cl fp) tg g) (hj : ∀ j ∈ js, j ∈ own.map (·.2)) (hz : ys.length < sizeLine) (Γe : Yt → List B)
    (htg : ∀ y, y ∈ ys → TgD X.K g js (wipeB Γ (own.map (·.2))) (encY y) (Γe y)) (he : ∀ y, y ∈ ys → ∀ s H C cl fp, ED (blkX X scope s H C cl fp) (Γe y) elt (enc (f y))) : LcOk X Γ elt tg iter [] scope own (.lst ((ys.map f).map enc)) := by
  have h := lc_ok (ifs := []) (encY := encY) (enc := enc) ys (fun _ => true) f hi ok hg hj hz Γe htg (fun _ _ => rfl) (fun y hy _ => he y hy) (by decide)
  rw [filter_tt] at h
  exact h
end Sd

namespace Sd
open PySem PySem.Spec PyProof.Rows L2

/-! ### how blocks end -/
structure Exn where
  cls : Str
  fs : List (Str × D)
inductive Res where
  | v (x : D) | o (o : OO) | x (e : Exn) | m (x : D) (p : Addr) (o : OO) | stk
inductive Ctl (S T : Type) where
  | go (s : S) | brk (b : T) | ret (r : Res)
def bnd {α β : Type} (x : α) (f : α → β) : β := f x
theorem bnd_eq {α β : Type} (x : α) (f : α → β) : bnd x f = f x := rfl
def Ctl.bind {S S' T : Type} (c : Ctl S T) (f : S → Ctl S' T) : Ctl S' T := match c with
  | .go s => f s
  | .brk b => .brk b
  | .ret r => .ret r
def Ctl.up {S T : Type} (c : Ctl Empty T) : Ctl S T := match c with
  | .go s => nomatch s
  | .brk b => .brk b
  | .ret r => .ret r
theorem Ctl.bind_go {S S' T : Type} (s : S) (f : S → Ctl S' T) : (Ctl.go (T := T) s).bind f = f s := rfl
theorem Ctl.bind_brk {S S' T : Type} (b : T) (f : S → Ctl S' T) : (Ctl.brk (S := S) b).bind f = .brk b := rfl
theorem Ctl.bind_ret {S S' T : Type} (r : Res) (f : S → Ctl S' T) : (Ctl.ret (S := S) (T := T) r).bind f = .ret r := rfl
theorem Ctl.up_ret {S T : Type} (r : Res) : (Ctl.ret (T := T) r).up = (Ctl.ret r : Ctl S T) := rfl
theorem Ctl.up_brk {S T : Type} (b : T) : (Ctl.brk b).up = (Ctl.brk b : Ctl S T) := rfl
/-- a for loop: S what goes on from turn to turn -/
def loop {S Y T : Type} (step : S → Y → Ctl S S) : S → List Y → Ctl S T
  | s, [] => .go s
  | s, y :: ys => match step s y with
    | .go s' => loop step s' ys
    | .brk s' => .go s'
    | .ret r => .ret r
def bndX {α S T : Type} (r : Except Exn α) (k : α → Ctl S T) : Ctl S T := match r with
  | .ok v => k v
  | .error e => .ret (.x e)

def ExIs (K : PySem.W.Frag) (G H : Hp) (e : Exn) (cls : Value) (d : Option Addr) : Prop := PySem.W.nsIn K mainGlobals e.cls = some (some cls) ∧ (e.fs ≠ [] → ∃ a vs, d = some a ∧ G a = some (.xd vs) ∧ IsFs K G vs e.fs) ∧ (e.fs = [] → d = none)
def PostR (K : PySem.W.Frag) (F G0 : Hp) (E : XK) (rt : VK) : Res → Prop
  | .v x => ∀ v G' H', Grow G0 F G' H' → Is K G' v x → rt v H'
  | .o o => ∀ p u G' H', Grow G0 F G' H' → H' p = some u → G' p = none → F p = none → OwnIs K G' o u → rt (.ref p) H'
  | .x e => ∀ cls d G' H', Grow G0 F G' H' → ExIs K G' H' e cls d → E cls d H'
  | .m x p o => ∀ v u G' H', Grow G0 F G' H' → Is K G' v x → H' p = some u → G' p = none → OwnIs K G' o u → rt v H'
  | .stk => False
def PostC {S T : Type} (K : PySem.W.Frag) (F G0 G : Hp) (E : XK) (D : Ends) (Γs : S → List B) (Γb : T → List B) : Ctl S T → Prop
  | .go s => ∀ σ' G' H', Ex G G' → Stt K F (Γs s) σ' G' H' → Grow G0 F G' H' → D.nx σ' H'
  | .brk b => ∀ σ' G' H', Ex G G' → Stt K F (Γb b) σ' G' H' → Grow G0 F G' H' → D.bk σ' H'
  | .ret r => PostR K F G0 E D.rt r
theorem PostC.up {S T : Type} {K : PySem.W.Frag} {F G0 G G1 : Hp} {E : XK} {D : Ends} {Γs : S → List B} {Γb : T → List B} {k : Ctl S T} (h : PostC K F G0 G E D Γs Γb k) (e : Ex G G1) : PostC K F G0 G1 E D Γs Γb k := by
  cases k with
  | go s => exact fun σ' G' H' e' => h σ' G' H' (e.trans e')
  | brk s => exact fun σ' G' H' e' => h σ' G' H' (e.trans e')
  | ret r => exact h
def BlkD {S T : Type} (K : PySem.W.Frag) (E : XK) (Γ : List B) (w : TS) (Γs : S → List B) (Γb : T → List B) (k : Ctl S T) : Prop :=
  ∀ F G0 σ G H (D : Ends), Stt K F Γ σ G H → Grow G0 F G H → PostC K F G0 G E D Γs Γb k → w D σ H
abbrev BK {S T : Type} (X : Cx) (E : XK) (Γ : List B) (sts : List Stmt) (Γs : S → List B) (Γb : T → List B) (k : Ctl S T) : Prop := BlkD X.K E Γ (wS X sts) Γs Γb k

/-- what a def's body may lean on -/
structure RoomB (k : Nat) (A : Around) : Prop where
  dp : A.depth + 3 * k + 5 < recursionLimit
  un : A.units + 16 * k + 200 < cLine
theorem RoomB.mono {j k : Nat} {A : Around} (r : RoomB k A) (h : j ≤ k) : RoomB j A := ⟨by have := r.dp; omega, by have := r.un; omega⟩
structure XOk (lv : Nat) (N : List Str) (sc : Scope) (X : Cx) : Prop where
  room : RoomB lv X.A
  fn : ∀ x, X.fn x = true
  hN : X.N = N
  hsc : X.env.scope = sc
  nd : X.N.Nodup
  kd : X.env.scope.kind = .function
  stk : X.stack = X.env :: X.outer
  frm : X.env.frame = some X.env.locals
/-- .. where no exception is handled -/
structure XCm (X : Cx) (E : XK) : Prop where
  calm : X.calm = true
  hd : X.A.handled = none
  pown : PassesOwn (model X.prog X.w) X.A X.env X.xe
  takes : Takes X (fun cls d _ H => E cls d H)
section
variable {lv : Nat} {N : List Str} {sc : Scope} {X : Cx} {E : XK}
theorem XCm.room (hM : XCm X E) (hX : XOk lv N sc X) {k : Nat} (h : k ≤ lv) : Room k X.A := ⟨hM.hd, (hX.room.mono h).dp, (hX.room.mono h).un⟩
theorem XOk.nm (h : XOk lv N sc X) {i : Nat} {x : Str} (e : N[i]? = some x) : X.N[i]? = some x := by rw [h.hN]; exact e
theorem XOk.lk (h : XOk lv N sc X) {x : Str} {k : NameKind} (e : sc.names.lookup x = some k) : X.env.scope.names.lookup x = some k := by rw [h.hsc]; exact e
theorem XOk.lc (h : XOk lv N sc X) {x : Str} (e : Loc sc x) : Loc X.env.scope x := by rw [h.hsc]; exact e
theorem XOk.vs (h : XOk lv N sc X) {x : Str} (e : Vis sc x) : Vis X.env.scope x := by rw [h.hsc]; exact e
theorem XOk.gl (h : XOk lv N sc X) {x : Str} (e : sc.names.lookup x = some .globalImplicit) : Gl X x := by
  show X.env.scope.names.lookup x = some .globalImplicit
  rw [h.hsc]
  exact e
end
theorem loc_l {sc : Scope} {x : Str} (h : sc.names.lookup x = some .local) : Loc sc x := .inl h
theorem loc_c {sc : Scope} {x : Str} (h : sc.names.lookup x = some .cell) : Loc sc x := .inr h
theorem vis_l {sc : Scope} {x : Str} (h : sc.names.lookup x = some .local) : Vis sc x := .inl h
theorem vis_c {sc : Scope} {x : Str} (h : sc.names.lookup x = some .cell) : Vis sc x := .inr (.inl h)
theorem vis_f {sc : Scope} {x : Str} (h : sc.names.lookup x = some .free) : Vis sc x := .inr (.inr h)

section
variable {X : Cx} {E : XK} {Γ : List B} {S T : Type} {Γs : S → List B} {Γb : T → List B} {st : Stmt} {rest : List Stmt} {pos : Pos}
theorem w_cons {t : TS} {D : Ends} {σ : L2.St} {H : Hp} (h : PS X st t) (k : t { D with nx := wS X rest D } σ H) : wS X (st :: rest) D σ H := ⟨fun pins s I => (pss_cons h pss_w).run pins s σ H D I k⟩
theorem w_nil {D : Ends} {σ : L2.St} {H : Hp} (k : D.nx σ H) : wS X [] D σ H := ⟨fun pins s I => (pss_nil (X := X)).run pins s σ H D I k⟩

/-! ### weaker slots -/
inductive Wk : List B → List B → Prop
  | nil : Wk [] []
  | keep {b : B} {Γ Γ' : List B} : Wk Γ Γ' → Wk (b :: Γ) (b :: Γ')
  | drop {b : B} {Γ Γ' : List B} : Wk Γ Γ' → Wk (b :: Γ) (.un :: Γ')
theorem Wk.refl : ∀ Γ : List B, Wk Γ Γ
  | [] => .nil
  | _ :: Γ => .keep (Wk.refl Γ)
theorem Wk.len {Γ Γ' : List B} (h : Wk Γ Γ') : Γ.length = Γ'.length := by
  induction h with
  | nil => rfl
  | keep _ ih => exact congrArg (· + 1) ih
  | drop _ ih => exact congrArg (· + 1) ih
theorem Wk.get {Γ Γ' : List B} (h : Wk Γ Γ') : ∀ {i : Nat} {b : B}, Γ'[i]? = some b → b ≠ .un → Γ[i]? = some b := by
  induction h with
  | nil => intro i b e _; exact e
  | keep _ ih =>
    intro i b e n
    cases i with
    | zero => exact e
    | succ i => exact ih (by simpa using e) n
  | drop _ ih =>
    intro i b e n
    cases i with
    | zero =>
      simp at e
      exact absurd e.symm n
    | succ i => exact ih (by simpa using e) n
theorem Stt.wk {K : PySem.W.Frag} {F : Hp} {Γ Γ' : List B} {σ : L2.St} {G H : Hp} (s : Stt K F Γ σ G H) (w : Wk Γ Γ') : Stt K F Γ' σ G H :=
  ⟨s.len.trans w.len, s.sub, fun i x e => s.dat i x (w.get e (by simp)), fun i o pa e => s.own i o pa (w.get e (by simp)), fun i j p o o' pa pb e1 e2 => s.sep i j p o o' pa pb (w.get e1 (by simp)) (w.get e2 (by simp)), fun i xs e => s.bor i xs (w.get e (by simp)), fun i a d fs e => s.exc i a d fs (w.get e (by simp)), s.tre.sub (fun j x e => ⟨w.get e (by simp), rfl⟩) fun j o pa e => ⟨⟨o, pa, w.get e (by simp)⟩, rfl⟩⟩

/-- the end of a block -/
theorem b_nil {s : S} (h : Wk Γ (Γs s)) : BK X E Γ [] Γs Γb (.go s) := fun F G0 σ G H D st gr post => w_nil (post σ G H (Evl.Ex.refl _) (st.wk h) gr)
/-- slots forgotten -/
theorem b_wk {Γ' : List B} {sts : List Stmt} {k : Ctl S T} (w : Wk Γ Γ') (h : BK X E Γ' sts Γs Γb k) : BK X E Γ sts Γs Γb k := fun F G0 σ G H D st gr post => h F G0 σ G H D (st.wk w) gr post
/-- one's own list stays from here on -/
theorem b_frz (i : Nat) {ds : List D} {sts : List Stmt} {k : Ctl S T} (e : Γ[i]? = some (B.own (.lst ds))) (h : BK X E (Γ.set i (.d (.lst ds))) sts Γs Γb k) : BK X E Γ sts Γs Γb k := fun F G0 σ G H D st gr post => by
  obtain ⟨p, vs, h1, h2, h3, h4, s'⟩ := st.frzL e
  have g1 : Ex G (upd G p (.lst vs)) := Evl.Ex.new h3
  exact h F G0 σ _ H D s' (gr.frz h4 h2 h3) (post.up g1)

/-! ### stores -/
theorem b_setP {τ : Type} {te : TE} {i : Nat} (enc : τ → D) {x : τ} {k : τ → Ctl S T} (hp : PS X st (tAsg te (gName i))) (he : EvD X.K Γ te (enc x)) (hr : ∀ v, v = x → BK X E (Γ.set i (.d (enc v))) rest Γs Γb (k v)) : BK X E Γ (st :: rest) Γs Γb (bnd x k) := fun F G0 σ G H D s gr post =>
  w_cons hp (he F σ G H s _ fun v G1 H1 g1 i1 => hr x rfl F G0 _ G1 H1 D ((s.grow g1).set i i1) (gr.trans g1) (post.up g1.g))
theorem b_setPO {τ : Type} {te : TE} {i : Nat} (enc : τ → OO) {x : τ} {k : τ → Ctl S T} (hp : PS X st (tAsg te (gName i))) (he : EvO X.K Γ te (enc x)) (hr : ∀ v, v = x → BK X E (Γ.set i (.own (enc v))) rest Γs Γb (k v)) : BK X E Γ (st :: rest) Γs Γb (bnd x k) := fun F G0 σ G H D s gr post =>
  w_cons hp (he F σ G H s _ fun p u G1 H1 g1 hp n hn ho => hr x rfl F G0 _ G1 H1 D ((s.grow g1).setO i hp n (Evl.fresh_back gr.h hn) ho (fun j o' _ _ e z => s.fresh hn e z) fun j x p' qs _ e a => s.tre.fresh g1 hn e a) (gr.trans g1) (post.up g1.g))
variable {lv : Nat} {N : List Str} {sc : Scope} {y : Str} {py : Pos} {e : Expr}
theorem b_set {τ : Type} (i : Nat) (enc : τ → D) {x : τ} {k : τ → Ctl S T} (hX : XOk lv N sc X) (hn : N[i]? = some y) (hl : Loc sc y) (he : ED X Γ e (enc x)) (hr : ∀ v, v = x → BK X E (Γ.set i (.d (enc v))) rest Γs Γb (k v)) (hs : swapsWith e (some (.Name y py)) pos.line X.env = pure false := by exact sw_ns rfl) :
    BK X E Γ (.Assign [.Name y py] e pos :: rest) Γs Γb (bnd x k) := b_setP enc (ps_set hX.nd (hX.nm hn) (hX.lc hl) pe_w hs (.inl (hX.fn y))) he hr
theorem b_setO {τ : Type} (i : Nat) (enc : τ → OO) {x : τ} {k : τ → Ctl S T} (hX : XOk lv N sc X) (hn : N[i]? = some y) (hl : Loc sc y) (he : EO X Γ e (enc x)) (hr : ∀ v, v = x → BK X E (Γ.set i (.own (enc v))) rest Γs Γb (k v)) (hs : swapsWith e (some (.Name y py)) pos.line X.env = pure false := by exact sw_ns rfl) :
    BK X E Γ (.Assign [.Name y py] e pos :: rest) Γs Γb (bnd x k) := b_setPO enc (ps_set hX.nd (hX.nm hn) (hX.lc hl) pe_w hs (.inl (hX.fn y))) he hr
/-- y = [.. for ..] on one row, y a plain local -/
theorem b_setLc {τ : Type} (i : Nat) (enc : τ → OO) {x : τ} {k : τ → Ctl S T} {elt tg iter : Expr} {ifs : List Expr} {scope : Scope} {own : List (Str × Nat)} {cpos : Pos} (hM : XCm X E) (hX : XOk lv N sc X) (hn : N[i]? = some y) (hl : sc.names.lookup y = some .local)
    (hsw : swapsWith (.ListComp elt [⟨tg, iter, ifs, 0⟩] scope cpos) (some (.Name y py)) pos.line X.env = pure true) (he : LcOk X Γ elt tg iter ifs scope own (enc x)) (hr : ∀ v, v = x → BK X E (Γ.set i (.own (enc v))) rest Γs Γb (k v)) (hs : ∀ x, foldedSetIterable iter X.env x = pure x := by exact fs_ns rfl) :
    BK X E Γ (.Assign [.Name y py] (.ListComp elt [⟨tg, iter, ifs, 0⟩] scope cpos) pos :: rest) Γs Γb (bnd x k) := by
  obtain ⟨wi, g, tt, te, h1, h2, h3, h4, h5, h6⟩ := he
  exact b_setPO enc (ps_setLc hM.calm hX.nd (hX.nm hn) (hX.lk hl) hsw h1 h2 h3 h4 h5 hs) h6 hr
/-- a, b, .. = a tuple -/
theorem b_setT {τ : Type} (enc : τ → D) {x : τ} {k : τ → Ctl S T} {tg : Expr} {g : TG} {js : List Nat} (Γ' : τ → List B) (hg : PG X tg g) (htg : ∀ v, TgD X.K g js Γ (enc v) (Γ' v)) (he : ED X Γ e (enc x)) (hr : ∀ v, v = x → BK X E (Γ' v) rest Γs Γb (k v))
    (hs : swapsWithSole [tg] e pos.line X.env = pure false := by exact sws_ns rfl) (hw : swappedStores [tg] e X.env = pure none := by exact sst_ns rfl) (h1 : (assignEach [tg] X.env).map (·.2) = [assign tg X.env] := by rfl) : BK X E Γ (.Assign [tg] e pos :: rest) Γs Γb (bnd x k) := fun F G0 σ G H D s gr post =>
  w_cons (ps_asg pe_w hg hs hw h1) (he F σ G H s _ fun v G1 H1 g1 i1 => htg x F σ G1 H1 v (s.grow g1) i1 _ fun ws s' => hr x rfl F G0 _ G1 H1 D s' (gr.trans g1) (post.up g1.g))

/-! ### return -/
theorem b_ret {x : D} (he : ED X Γ e x) : BK X E Γ (.Return (some e) pos :: rest) Γs Γb (.ret (.v x)) := fun F G0 σ G H D s gr post => w_cons (ps_ret pe_w) (he F σ G H s _ fun v G1 H1 g1 i1 => post v G1 H1 (gr.trans g1) i1)
theorem b_retO {o : OO} (he : EO X Γ e o) : BK X E Γ (.Return (some e) pos :: rest) Γs Γb (.ret (.o o)) := fun F G0 σ G H D s gr post => w_cons (ps_ret pe_w) (he F σ G H s _ fun p u G1 H1 g1 hp n hn ho => post p u G1 H1 (gr.trans g1) hp n (Evl.fresh_back gr.h hn) ho)
theorem b_retN : BK X E Γ (.Return none pos :: rest) Γs Γb (.ret (.v .non)) := fun F G0 σ G H D s gr post => w_cons ps_retN (post .non G H gr .non)
/-- one's own thing in a slot goes out -/
theorem b_retV (i : Nat) {o : OO} (hX : XOk lv N sc X) (hn : N[i]? = some y) (hl : Vis sc y) (h : Γ[i]? = some (B.own o)) (hd : (y == ("__debug__" : Str)) = false := by decide) (hcd : (y == ("__classdict__" : Str)) = false := by decide) : BK X E Γ (.Return (some (.Name y py)) pos :: rest) Γs Γb (.ret (.o o)) := fun F G0 σ G H D s gr post => by
  obtain ⟨p, u, h1, h2, h3, h4, h5, _⟩ := s.own i o _ h
  exact w_cons (ps_ret (pe_var (hX.nm hn) (hX.vs hl) hd hcd)) ⟨_, h1, post p u G H gr h2 h3 h4 h5⟩

/-! ### if -/
variable {c : Expr} {b : Bool} {A C : List Stmt}
/-- its body leaves -/
theorem b_ifr {k1 : Ctl Empty T} {k2 : Ctl S T} (hc : ET X Γ c b) (h1 : b = true → BK X E Γ A (fun s : Empty => nomatch s) Γb k1) (h2 : b = false → BK X E Γ rest Γs Γb k2) : BK X E Γ (.If c A [] pos :: rest) Γs Γb (if b = true then k1.up else k2) := fun F G0 σ G H D s gr post =>
  w_cons (ps_if pt_w pss_w pss_nil) (hc F σ G H s _ fun G1 H1 g1 => by
    cases b with
    | true =>
      refine h1 rfl F G0 σ G1 H1 _ (s.grow g1) (gr.trans g1) ?_
      have p := PostC.up post g1.g
      cases k1 with
      | go s => exact nomatch s
      | brk b => exact p
      | ret r => exact p
    | false => exact h2 rfl F G0 σ G1 H1 _ (s.grow g1) (gr.trans g1) (post.up g1.g))
/-- the last statement -/
theorem b_ifl {k1 k2 : Ctl S T} (hc : ET X Γ c b) (h1 : b = true → BK X E Γ A Γs Γb k1) (h2 : b = false → BK X E Γ C Γs Γb k2) : BK X E Γ [.If c A C pos] Γs Γb (if b = true then k1 else k2) := fun F G0 σ G H D s gr post => by
  have nx : ∀ {σ' H'}, D.nx σ' H' → wS X [] D σ' H' := fun h => w_nil h
  have fin : ∀ {k : Ctl S T}, PostC X.K F G0 G E D Γs Γb k → PostC X.K F G0 G E { D with nx := wS X [] D } Γs Γb k := fun {k} h => by
    cases k with
    | go s => exact fun σ' G' H' e st gr => nx (h σ' G' H' e st gr)
    | brk b => exact h
    | ret r => exact h
  exact w_cons (ps_if pt_w pss_w pss_w) (hc F σ G H s _ fun G1 H1 g1 => by
    cases b with
    | true => exact h1 rfl F G0 σ G1 H1 _ (s.grow g1) (gr.trans g1) ((fin post).up g1.g)
    | false => exact h2 rfl F G0 σ G1 H1 _ (s.grow g1) (gr.trans g1) ((fin post).up g1.g))
theorem PostC.bind {S' : Type} {Γj : S' → List B} {K : PySem.W.Frag} {F G0 G : Hp} {D : Ends} {k : Ctl S' T} {kr : S' → Ctl S T} {u : TS} (post : PostC K F G0 G E D Γs Γb (k.bind kr)) (hr : ∀ s', k = .go s' → BlkD K E (Γj s') u Γs Γb (kr s')) : PostC K F G0 G E { D with nx := u D } Γj Γb k := by
  cases k with
  | go s => exact fun σ' G' H' e st gr => hr s rfl F G0 σ' G' H' D st gr (PostC.up post e)
  | brk b => exact post
  | ret r => exact post
/-- a statement, then the rest -/
theorem b_seq {S' : Type} {Γj : S' → List B} {k : Ctl S' T} {kr : S' → Ctl S T} (h : ∀ F G0 σ G H (D : Ends), Stt X.K F Γ σ G H → Grow G0 F G H → PostC X.K F G0 G E D Γj Γb k → ∃ t, PS X st t ∧ t D σ H) (hr : ∀ s', k = .go s' → BK X E (Γj s') rest Γs Γb (kr s')) : BK X E Γ (st :: rest) Γs Γb (k.bind kr) := fun F G0 σ G H D s gr post => by
  obtain ⟨t, h1, h2⟩ := h F G0 σ G H _ s gr (post.bind hr)
  exact w_cons h1 h2
theorem b_ifj {S' : Type} {Γj : S' → List B} {k1 k2 : Ctl S' T} {kr : S' → Ctl S T} (hc : ET X Γ c b) (h1 : b = true → BK X E Γ A Γj Γb k1) (h2 : b = false → BK X E Γ C Γj Γb k2) (hr : ∀ s', (if b = true then k1 else k2) = .go s' → BK X E (Γj s') rest Γs Γb (kr s')) : BK X E Γ (.If c A C pos :: rest) Γs Γb ((if b = true then k1 else k2).bind kr) :=
  b_seq (fun F G0 σ G H D s gr post => ⟨_, ps_if pt_w pss_w pss_w, hc F σ G H s _ fun G1 H1 g1 => by
    cases b with
    | true => exact h1 rfl F G0 σ G1 H1 _ (s.grow g1) (gr.trans g1) (post.up g1.g)
    | false => exact h2 rfl F G0 σ G1 H1 _ (s.grow g1) (gr.trans g1) (post.up g1.g)⟩) hr

/-! ### for -/
theorem loop_drop {Y T : Type} {step : S → Y → Ctl S S} {s : S} {ys : List Y} {i : Nat} {y : Y} (h : ys[i]? = some y) : (loop step s (ys.drop i) : Ctl S T) = match step s y with
    | .go s' => loop step s' (ys.drop (i + 1))
    | .brk s' => .go s'
    | .ret r => .ret r := by
  have e : ys.drop i = y :: ys.drop (i + 1) := by
    obtain ⟨hl, hy⟩ := List.getElem?_eq_some_iff.mp h
    rw [List.drop_eq_getElem_cons hl, hy]
  rw [e]
  rfl
theorem b_for {S' Y : Type} {Γl : S' → List B} {kr : S' → Ctl S T} {tg iter : Expr} {body : List Stmt} {g : TG} {js : List Nat} (Iv : Nat → S' → Prop) (encY : Y → D) (step : S' → Y → Ctl S' S') (s0 : S') (ys : List Y) (Γy : S' → Y → List B) (hM : XCm X E) (hX : XOk lv N sc X)
    (h0 : Wk Γ (Γl s0)) (i0 : Iv 0 s0) (hi : IT X Γ tg iter (ys.map encY)) (hg : PG X tg g) (htg : ∀ s y, TgD X.K g js (Γl s) (encY y) (Γy s y))
    (hb : ∀ i s y, ys[i]? = some y → Iv i s → BK X E (Γy s y) body Γl Γl (step s y)) (hv : ∀ i s y s', ys[i]? = some y → Iv i s → step s y = .go s' → Iv (i + 1) s')
    (hr : ∀ s, (loop step s0 ys : Ctl S' T) = .go s → BK X E (Γl s) rest Γs Γb (kr s)) (hs : ∀ x, foldedSetIterable iter X.env x = pure x := by exact fs_ns rfl) : BK X E Γ (.For tg iter body [] pos :: rest) Γs Γb ((loop step s0 ys).bind kr) := by
  obtain ⟨wi, p1, p2⟩ := hi
  refine b_seq (Γj := Γl) (fun F G0 σ G H D s gr post => ⟨_, ps_for hM.pown hM.calm p1 hg pss_w hs, p2 F σ G H s _ fun J Gd Yv G1 H1 g1 W hGd hY => ?_⟩) hr
  have hlen : (ys.map encY).length = ys.length := List.length_map _
  rw [hlen] at W
  refine for_it (g := g) (tb := wS X body) (D := D) W (fun i σ' H' => ∃ G' s', Ex G1 G' ∧ Iv i s' ∧ Stt X.K F (Γl s') σ' G' H' ∧ Grow G0 F G' H' ∧ PostC X.K F G0 G' E D Γl Γb (loop step s' (ys.drop i))) ?_ (fun i σ' H' _ ⟨G', s', e, _, st, _⟩ => hGd G' H' e st.sub) ?_ ?_
  · exact ⟨G1, s0, Evl.Ex.refl _, i0, (s.grow g1).wk h0, gr.trans g1, post.up g1.g⟩
  · rintro i x σ' H2 H3 hi ⟨G2, s', e2, iv, st, gr2, po⟩ hy
    obtain ⟨G3, xd, hx, gr3, ix⟩ := hY i G2 H2 x H3 e2 st.sub hy
    rw [List.getElem?_map] at hx
    cases hyi : ys[i]? with
    | none =>
      rw [hyi] at hx
      cases hx
    | some y =>
      rw [hyi] at hx
      cases hx
      refine htg s' y F σ' G3 H3 x (st.grow gr3) ix _ fun ws st4 => ?_
      have po3 := po.up gr3.g
      rw [loop_drop hyi] at po3
      have hvy := hv i s' y
      have hby := hb i s' y hyi iv F G0 _ G3 H3 { D with nx := fun σ' H' => ∃ G' s', Ex G1 G' ∧ Iv (i + 1) s' ∧ Stt X.K F (Γl s') σ' G' H' ∧ Grow G0 F G' H' ∧ PostC X.K F G0 G' E D Γl Γb (loop step s' (ys.drop (i + 1))), ct := fun σ' H' => ∃ G' s', Ex G1 G' ∧ Iv (i + 1) s' ∧ Stt X.K F (Γl s') σ' G' H' ∧ Grow G0 F G' H' ∧ PostC X.K F G0 G' E D Γl Γb (loop step s' (ys.drop (i + 1))), bk := D.nx } st4 (gr2.trans gr3)
      refine hby ?_
      cases hst : step s' y with
      | go s2 =>
        rw [hst] at po3
        exact fun σ5 G5 H5 e5 st5 gr5 => ⟨G5, s2, (e2.trans gr3.g).trans e5, hvy s2 hyi iv hst, st5, gr5, PostC.up po3 e5⟩
      | brk s2 =>
        rw [hst] at po3
        exact fun σ5 G5 H5 e5 st5 gr5 => po3 σ5 G5 H5 e5 st5 gr5
      | ret r =>
        rw [hst] at po3
        exact po3
  · rintro σ' H' ⟨G', s', e, iv, st, gr2, po⟩
    rw [List.drop_length] at po
    exact po σ' G' H' (Evl.Ex.refl _) st gr2
end

/-! ### one's own lists change -/
section
variable {X : Cx} {E : XK} {Γ : List B} {S T : Type} {Γs : S → List B} {Γb : T → List B} {rest : List Stmt} {pos : Pos} {lv : Nat} {N : List Str} {sc : Scope} {y : Str} {py : Pos} {e : Expr} {apos cpos : Pos}
/-- y.append(e) -/
theorem b_app {τ : Type} {pa : Option Addr} (i : Nat) (enc : τ → D) {xs : List τ} {x : τ} {k : List τ → Ctl S T} (hX : XOk lv N sc X) (hn : N[i]? = some y) (hl : Vis sc y) (h : Γ[i]? = some (B.own (.lst (xs.map enc)) pa)) (he : ED X Γ e (enc x)) (hz : xs.length < sizeLine)
    (hr : ∀ zs, zs = xs ++ [x] → BK X E (Γ.set i (.own (.lst (zs.map enc)) pa)) rest Γs Γb (k zs))
    (hs : swapsWith (.Call (.Attribute (.Name y py) "append" apos) [e] [] cpos) none pos.line X.env = pure false := by exact sw_ns rfl)
    (hbase : attributeBase (.Name y py) "append" X.env (eval (.Name y py) X.env) = eval (.Name y py) X.env := by exact ab_ns rfl) (hline : (apos.endLine == cpos.line) = true := by rfl)
    (hfew : ((backTo cpos (starEach (e :: []) X.env)).all (fun x => !x.1) && (backToKw cpos (keywordEach [] X.env)).all (fun x => x.1.isSome) && decide ((e :: ([] : List Expr)).length + ([] : List Keyword).length + (if ([] : List Keyword).isEmpty then 0 else 1) < 30)) = true := by exact few_ok rfl)
    (hst : starEach (e :: []) X.env = (false, eval e X.env) :: starEach [] X.env := by exact starEach_ns rfl) (hplain : (backTo cpos (starEach [] X.env)).any (·.1) = false := by exact plain_ok rfl) (hd : (y == ("__debug__" : Str)) = false := by decide) (hcd : (y == ("__classdict__" : Str)) = false := by decide) :
    BK X E Γ (.Expr (.Call (.Attribute (.Name y py) "append" apos) [e] [] cpos) pos :: rest) Γs Γb (bnd (xs ++ [x]) k) := fun F G0 σ G H D s gr post => by
  obtain ⟨p, u, h1, h2, h3, h4, h5, _⟩ := s.own i _ _ h
  obtain ⟨vs, rfl, iv⟩ := h5.lst
  refine w_cons (ps_expr (pe_bm PySem.F.plainAttrs_list PySem.F.slot_list_append PySem.F.type_list_append mt_append (pe_var (hX.nm hn) (hX.vs hl) hd hcd) (pa_cons pe_w pa_nil hst) hbase hfew hline hst hplain) hs) ?_
  refine ⟨_, h1, .inl ⟨rfl, vs, .inl (.inl h2)⟩, he F σ G H s _ fun v G1 H1 g1 i1 => ?_⟩
  have s1 := s.grow g1
  have nG : G1 p = none := g1.f p _ h2 h3
  refine ⟨p, vs, v, rfl, rfl, g1.h _ _ h2, by rw [iv.len, List.length_map]; exact hz, ?_⟩
  have s2 := s1.mut (u := .lst (vs ++ [v])) (o' := .lst ((xs ++ [x]).map enc)) h h1 (by
    show IsAll _ _ _ _
    rw [List.map_append]
    exact (iv.up g1.g).app (.cons i1 .nil))
  have g2 := gr.trans g1
  refine hr (xs ++ [x]) rfl F G0 σ G1 _ D s2 ⟨g2.g, fun b o eo => ?_, s2.sub, g2.f⟩ (post.up g1.g)
  rw [upd_ne (ne_of_none eo h4)]
  exact g2.h b o eo
end

/-! ### defs -/
def spF (K : PySem.W.Frag) {A : Type} (enc : A → List D) (pre : A → Prop) (res : A → Res) : Sp := fun vs H Q E => ∃ (a : A) (G : Hp), Ex G H ∧ IsAll K G vs (enc a) ∧ pre a ∧ PostR K H G E Q (res a)
theorem len_map_app {α β : Type} (xs : List α) (f : α → β) (n : Nat) (b : β) : (xs.map f ++ List.replicate n b).length = xs.length + n := by simp
theorem stt_start {K : PySem.W.Frag} {vs : List V} {ds : List D} {G H : Hp} {N : List Str} (h : IsAll K G vs ds) (ex : Ex G H) : Stt K H (ds.map B.d ++ List.replicate (N.length - ds.length) B.un) (L2.start N vs) G H := by
  have hl := h.len
  have get : ∀ {i : Nat} {b : B}, (ds.map B.d ++ List.replicate (N.length - ds.length) B.un)[i]? = some b → b ≠ .un → ∃ d, b = .d d ∧ ds[i]? = some d := fun {i b} e n => by
    by_cases hi : i < ds.length
    · rw [List.getElem?_append_left (by simpa using hi), List.getElem?_map] at e
      cases hd : ds[i]? with
      | none =>
        rw [hd] at e
        cases e
      | some d =>
        rw [hd] at e
        exact ⟨d, (Option.some.inj e).symm, rfl⟩
    · rw [List.getElem?_append_right (by simpa using Nat.le_of_not_lt hi), List.getElem?_replicate] at e
      split at e
      · exact absurd (Option.some.inj e).symm n
      · cases e
  refine ⟨by simp [L2.start, hl], ex, fun i x e => ?_, fun i o pa e => ?_, fun i j p o o' pa pb e _ _ _ => ?_, fun i xs e => ?_, fun i xa xd xf e => ?_, .noT fun i x e => ?_⟩
  case refine_6 =>
    obtain ⟨d, h1, _⟩ := get e (by simp)
    cases h1
  · obtain ⟨d, h1, h2⟩ := get e (by simp)
    cases h1
    obtain ⟨v, h3, h4⟩ := h.get h2
    refine ⟨v, ?_, h4⟩
    unfold L2.start
    rw [List.getElem?_append_left (by simpa using (List.getElem?_eq_some_iff.mp h3).1), List.getElem?_map, h3]
    rfl
  · obtain ⟨d, h1, _⟩ := get e (by simp)
    cases h1
  · obtain ⟨d, h1, _⟩ := get e (by simp)
    cases h1
  · obtain ⟨d, h1, _⟩ := get e (by simp)
    cases h1
  · obtain ⟨d, h1, _⟩ := get e (by simp)
    cases h1
section
variable {P : Program} {w : World} {K : PySem.W.Frag} {mg : Str → Option Value} {base : Heap} {x qual : Str} {st : Stmt} {f : Addr} {fd : FuncData} {N ps : List Str} {lv : Nat} {A : Type} {enc : A → List D} {pre : A → Prop} {res : A → Res}
theorem def_ok (F : Fun K x qual st f fd) (S : FnScope N ps (defScope st)) (hlen : ∀ a, (enc a).length = ps.length)
    (hb : ∀ a, pre a → ∀ (X : Cx) (E : XK), X.prog = P → X.w = w → X.K = K → X.mg = mg → X.base = base → XOk lv N (defScope st) X → XCm X E →
      BK X E ((enc a).map B.d ++ List.replicate (N.length - (enc a).length) B.un) (defBody st) (fun s : Unit => List.replicate N.length B.un) (fun s : Empty => nomatch s) (Ctl.ret (res a))) : FnOk P w K mg base (L2.CX P w) (lv + 1) f fd ps (spF K enc pre res) := by
  refine F.okX S (fun vs H Q E h => ?_) (fun cdv Ar outer s H vs Q E hr h => ?_)
  · obtain ⟨a, G, _, h2, _⟩ := h
    rw [h2.len, hlen]
  · obtain ⟨a, G, h1, h2, h3, h4⟩ := h
    generalize hX : cxOf (L2.CX P w) P w K mg base N qual (defScope st) f cdv Ar outer s H E = X
    have ok : XOk lv N (defScope st) X := by
      subst hX
      exact ⟨⟨hr.dp, hr.un⟩, fun _ => rfl, rfl, rfl, S.nd, S.kind, rfl, rfl⟩
    have cm : XCm X E := by
      subst hX
      exact ⟨rfl, hr.hd, passes_of rfl, takes_of rfl rfl rfl rfl⟩
    have b := hb a h3 X E (by subst hX; rfl) (by subst hX; rfl) (by subst hX; rfl) (by subst hX; rfl) (by subst hX; rfl) ok cm
    have hK : X.K = K := by subst hX; rfl
    refine ⟨wS X (defBody st), pss_w, ?_⟩
    refine b H G _ G H _ ?_ (Grow.refl h1) ?_
    · rw [hK]
      exact stt_start h2 h1
    · rw [hK]
      exact h4
/-- a def that falls through -/
theorem def_okN (F : Fun K x qual st f fd) (S : FnScope N ps (defScope st)) (hlen : ∀ a, (enc a).length = ps.length) (k : A → Ctl Unit Empty) (hk : ∀ a, pre a → match k a with | .go _ => res a = .v .non | .brk b => nomatch b | .ret r => res a = r)
    (hb : ∀ a, pre a → ∀ (X : Cx) (E : XK), X.prog = P → X.w = w → X.K = K → X.mg = mg → X.base = base → XOk lv N (defScope st) X → XCm X E →
      BK X E ((enc a).map B.d ++ List.replicate (N.length - (enc a).length) B.un) (defBody st) (fun s : Unit => List.replicate N.length B.un) (fun s : Empty => nomatch s) (k a)) : FnOk P w K mg base (L2.CX P w) (lv + 1) f fd ps (spF K enc pre res) := by
  refine F.okX S (fun vs H Q E h => ?_) (fun cdv Ar outer s H vs Q E hr h => ?_)
  · obtain ⟨a, G, _, h2, _⟩ := h
    rw [h2.len, hlen]
  · obtain ⟨a, G, h1, h2, h3, h4⟩ := h
    generalize hX : cxOf (L2.CX P w) P w K mg base N qual (defScope st) f cdv Ar outer s H E = X
    have ok : XOk lv N (defScope st) X := by
      subst hX
      exact ⟨⟨hr.dp, hr.un⟩, fun _ => rfl, rfl, rfl, S.nd, S.kind, rfl, rfl⟩
    have cm : XCm X E := by
      subst hX
      exact ⟨rfl, hr.hd, passes_of rfl, takes_of rfl rfl rfl rfl⟩
    have b := hb a h3 X E (by subst hX; rfl) (by subst hX; rfl) (by subst hX; rfl) (by subst hX; rfl) (by subst hX; rfl) ok cm
    have hK : X.K = K := by subst hX; rfl
    have hk' := hk a h3
    refine ⟨wS X (defBody st), pss_w, ?_⟩
    refine b H G _ G H _ ?_ (Grow.refl h1) ?_
    · rw [hK]
      exact stt_start h2 h1
    · rw [hK]
      cases hka : k a with
      | go u =>
        rw [hka] at hk'
        have e : res a = .v .non := hk'
        rw [e] at h4
        exact fun σ' G' H' _ _ gr => h4 .non G' H' gr .non
      | brk b => exact nomatch b
      | ret r =>
        rw [hka] at hk'
        have e : res a = r := hk'
        rw [← e]
        exact h4
end

/-! ### calls -/
structure Kn (P : Program) (w : World) (K : PySem.W.Frag) (mg : Str → Option Value) (base : Heap) (x : Str) (lv : Nat) (sp : Sp) : Prop where
  ex : ∃ (f : Addr) (fd : FuncData) (ps : List Str), FnOk P w K mg base (L2.CX P w) lv f fd ps sp ∧ mg x = some (.ref f) ∧ PySem.W.keepIn K (.ref f) = true ∧ Binds K fd ps []
abbrev KnX (X : Cx) (x : Str) (lv : Nat) (sp : Sp) : Prop := Kn X.prog X.w X.K X.mg X.base x lv sp
section
variable {X : Cx} {Γ : List B} {pos p : Pos} {x : Str} {lv : Nat} {A : Type} {enc : A → List D} {pre : A → Prop} {res : A → Res} {e : Expr} {es : List Expr}
theorem ed_call (a : A) {z : D} (hk : KnX X x lv (spF X.K enc pre res)) (hr : Room lv X.A) (hg : Gl X x) (ha : EA X Γ (e :: es) (enc a)) (hp : pre a) (hv : res a = .v z)
    (hdb : (x == ("__debug__" : Str)) = false := by decide) (he : starEach (e :: es) X.env = (false, eval e X.env) :: starEach es X.env := by exact starEach_ns rfl) (hpl : (backTo pos (starEach es X.env)).any (·.1) = false := by exact plain_ok rfl) : ED X Γ (.Call (.Name x p) (e :: es) [] pos) z := by
  obtain ⟨f, fd, ps, h1, h2, h3, h4⟩ := hk.ex
  refine ed_of (pe_call h1 hr hg h2 h3 h4 .nil passL pa_w hdb he hpl) fun F σ G H s Q q => ha F σ G H s _ fun vs G1 H1 g1 i1 => ?_
  rw [List.append_nil]
  refine ⟨a, G1, g1.s, i1, hp, ?_⟩
  rw [hv]
  exact fun v G2 H2 g2 i2 => q v G2 H2 (g1.trans g2) i2
theorem eo_call (a : A) {z : OO} (hk : KnX X x lv (spF X.K enc pre res)) (hr : Room lv X.A) (hg : Gl X x) (ha : EA X Γ (e :: es) (enc a)) (hp : pre a) (hv : res a = .o z)
    (hdb : (x == ("__debug__" : Str)) = false := by decide) (he : starEach (e :: es) X.env = (false, eval e X.env) :: starEach es X.env := by exact starEach_ns rfl) (hpl : (backTo pos (starEach es X.env)).any (·.1) = false := by exact plain_ok rfl) : EO X Γ (.Call (.Name x p) (e :: es) [] pos) z := by
  obtain ⟨f, fd, ps, h1, h2, h3, h4⟩ := hk.ex
  refine eo_of (pe_call h1 hr hg h2 h3 h4 .nil passL pa_w hdb he hpl) fun F σ G H s Q q => ha F σ G H s _ fun vs G1 H1 g1 i1 => ?_
  rw [List.append_nil]
  refine ⟨a, G1, g1.s, i1, hp, ?_⟩
  rw [hv]
  exact fun p u G2 H2 g2 hp n hn ho => q p u G2 H2 (g1.trans g2) hp n (Evl.fresh_back g1.h hn) ho
end
end Sd

namespace Sd
open PySem PySem.Spec PyProof.Rows L2

/-! ### within a comprehension's block -/
section
variable {lv : Nat} {N : List Str} {sc : Scope} {X : Cx} {E : XK} {scope : Scope} {s : Shared} {H : Hp} {C : Addr} {cl : List (Str × Addr)} {fp : List Addr} {x : Str}
theorem blk_lk (hX : XOk lv N sc X) {k : NameKind} (h : (relS scope sc).names.lookup x = some k) : (blkX X scope s H C cl fp).env.scope.names.lookup x = some k := by
  show (relS scope X.env.scope).names.lookup x = some k
  rw [hX.hsc]
  exact h
theorem blk_vs (hX : XOk lv N sc X) (h : Vis (relS scope sc) x) : Vis (blkX X scope s H C cl fp).env.scope x := by
  show Vis (relS scope X.env.scope) x
  rw [hX.hsc]
  exact h
theorem blk_lc (hX : XOk lv N sc X) (h : Loc (relS scope sc) x) : Loc (blkX X scope s H C cl fp).env.scope x := by
  show Loc (relS scope X.env.scope) x
  rw [hX.hsc]
  exact h
theorem blk_gl (hX : XOk lv N sc X) (h : (relS scope sc).names.lookup x = some .globalImplicit) : Gl (blkX X scope s H C cl fp) x := blk_lk hX h
theorem blk_ok (hX : XOk lv N sc X) {own : List (Str × Nat)} (h : blkC N sc scope own = true) : BlkOk X.N X.env.scope scope own := by
  rw [hX.hN, hX.hsc]
  exact blkOk_by h
theorem sw_yes (hX : XOk lv N sc X) {elt : Expr} {gs : List Comprehension} {pos py : Pos} {l : Nat} (hy : sc.names.lookup x = some .local) (ha : ((py.line == pos.line) && !(scope.names.any fun (n, k) => n == x && (k == .local || k == .cell))) = true) : swapsWith (.ListComp elt gs scope pos) (some (.Name x py)) l X.env = pure true := by
  rw [Bool.and_eq_true, Bool.not_eq_true'] at ha
  exact sw_true hX.kd (hX.lk hy) ha.1 ha.2
theorem sw_no (hX : XOk lv N sc X) {elt : Expr} {gs : List Comprehension} {pos py : Pos} {l : Nat} (hy : sc.names.lookup x = some .cell) : swapsWith (.ListComp elt gs scope pos) (some (.Name x py)) l X.env = pure false := by
  have ky : X.env.kindOf x = some .cell := hX.lk hy
  have hb : X.env.blockKind = .function := by unfold Env.blockKind; rw [hX.kd]; rfl
  unfold swapsWith
  simp only [hb, ky]
  rfl
end

/-! ### lists by their Lean lists -/
section
variable {X : Cx} {Γ : List B} {pos p : Pos} {a b : Expr} {τ υ : Type} {enc : τ → D} {enc' : υ → D} {xs ys : List τ} {zs : List υ}
theorem eo_catM (ha : EL X Γ a (xs.map enc)) (hb : EL X Γ b (ys.map enc)) (hl : xs.length + ys.length ≤ sizeLine) : EO X Γ (.BinOp a .Add b pos) (.lst ((xs ++ ys).map enc)) := by
  rw [List.map_append]
  exact eo_cat ha hb (by rw [List.length_map, List.length_map]; exact hl)
theorem map_rep (f : τ → υ) (xs : List τ) (n : Nat) : (List.replicate n xs).flatten.map f = (List.replicate n (xs.map f)).flatten := by
  rw [List.map_flatten, List.map_replicate]
theorem eo_repM {k : Int} (ha : EL X Γ a (xs.map enc)) (hb : ED X Γ b (.int k)) (h1 : -(2 ^ 63) ≤ k ∧ k < 2 ^ 63) (hl : xs.length * k.toNat ≤ sizeLine) : EO X Γ (.BinOp a .Mult b pos) (.lst ((List.replicate k.toNat xs).flatten.map enc)) := by
  rw [map_rep]
  exact eo_rep ha hb h1 (by rw [List.length_map]; exact hl)
theorem eo_slM {lo hi : Option Expr} {i j : Option Int} {p2 : Pos} (ha : EL X Γ a (xs.map enc)) (hl : EPo X Γ lo i) (hu : EPo X Γ hi j) : EO X Γ (.Subscript a (.Slice lo hi none p2) pos) (.lst ((cutL xs i j).map enc)) := by
  rw [← cutL_map]
  exact eo_slL ha hl hu
theorem ed_lenM (hg : Gl X "len") (hm : X.mg "len" = none) (ha : EL X Γ a (xs.map enc)) (he : starEach [a] X.env = (false, eval a X.env) :: starEach [] X.env := by exact starEach_ns rfl) (hpl : (backTo pos (starEach [] X.env)).any (·.1) = false := by exact plain_ok rfl) : ED X Γ (.Call (.Name "len" p) [a] [] pos) (.int xs.length) := by
  have h := ed_lenL (p := p) (pos := pos) hg hm ha he hpl
  rw [List.length_map] at h
  exact h
theorem it_zipM {elts : List Expr} {kk : Nat} {tpos : Pos} (hg : Gl X "zip") (hm : X.mg "zip" = none) (ha : ED X Γ a (.lst (xs.map enc))) (hb : ED X Γ b (.lst (zs.map enc'))) (hs : starEach [a, b] X.env = (false, eval a X.env) :: starEach [b] X.env := by exact starEach_ns rfl) (hs2 : starEach [b] X.env = (false, eval b X.env) :: starEach [] X.env := by exact starEach_ns rfl) (hpl : (backTo pos (starEach [b] X.env)).any (·.1) = false := by exact plain_ok rfl) :
    IT X Γ (.Tuple elts kk tpos) (.Call (.Name "zip" p) [a, b] [] pos) ((xs.zip zs).map fun z => .tup [enc z.1, enc' z.2]) := by
  have h := it_zip (elts := elts) (kk := kk) (tpos := tpos) (p := p) (pos := pos) hg hm ha hb hs hs2 hpl
  rw [List.zip_map, List.map_map] at h
  exact h
theorem it_enumM {elts : List Expr} {kk : Nat} {tpos : Pos} (hg : Gl X "enumerate") (hm : X.mg "enumerate" = none) (ha : ED X Γ a (.lst (xs.map enc))) (hs : starEach [a] X.env = [(false, eval a X.env)] := by exact starEach_ns rfl) :
    IT X Γ (.Tuple elts kk tpos) (.Call (.Name "enumerate" p) [a] [] pos) ((enumI xs).map fun z => .tup [.int z.1, enc z.2]) := by
  have h := it_enum (elts := elts) (kk := kk) (tpos := tpos) (p := p) (pos := pos) hg hm ha hs
  have e : ((enumI xs).map fun z => D.tup [.int z.1, enc z.2]) = ((xs.map enc).zipIdx.map fun z => D.tup [.int (z.2 : Int), z.1]) := by
    unfold enumI
    rw [List.map_map, List.zipIdx_map, List.map_map]
    rfl
  rw [e]
  exact h
end

/-! ### one's own list as data, where the answer is flat -/
def flatD : D → Bool
  | .non => true | .bl _ => true | .int _ => true | .str _ => true | _ => false
theorem Is.flat {K : PySem.W.Frag} {G G' : Hp} {v : V} {d : D} (h : Is K G v d) (f : flatD d = true) : Is K G' v d := by
  cases h with
  | non => exact .non
  | bl b => exact .bl b
  | int i => exact .int i
  | str l k => exact .str l k
  | _ => cases f
theorem Grow.lend {G H G' H' : Hp} {p : Addr} {u : HO} (g : Grow (upd G p u) H G' H') (n : G p = none) : Grow G H (fun b => if b = p then none else G' b) H' := by
  refine ⟨fun b o e => ?_, g.h, fun b o e => ?_, fun b o e m => ?_⟩
  · have hb : b ≠ p := ne_of_none e n
    show (if b = p then none else G' b) = some o
    rw [if_neg hb]
    exact g.g b o (by rw [upd_ne hb]; exact e)
  · have e' : (if b = p then none else G' b) = some o := e
    by_cases hb : b = p
    · rw [if_pos hb] at e'
      cases e'
    · rw [if_neg hb] at e'
      exact g.s b o e'
  · show (if b = p then none else G' b) = none
    by_cases hb : b = p
    · rw [if_pos hb]
    · rw [if_neg hb]
      exact g.f b o e (by rw [upd_ne hb]; exact m)
section
variable {K : PySem.W.Frag} {X : Cx} {Γ : List B} {e : Expr} {ds : List D} {x : D} {b : Bool}
theorem ed_lend (i : Nat) (h : Γ[i]? = some (B.own (.lst ds))) (hf : flatD x = true) (he : ED X (Γ.set i (.d (.lst ds))) e x) : ED X Γ e x := fun F σ G H s Q q => by
  obtain ⟨p, vs, h1, h2, h3, h4, s'⟩ := s.frzL h
  exact he F σ _ H s' Q fun v G' H' g i => q v _ H' (g.lend h3) (i.flat hf)
theorem et_lend (i : Nat) (h : Γ[i]? = some (B.own (.lst ds))) (he : ET X (Γ.set i (.d (.lst ds))) e b) : ET X Γ e b := fun F σ G H s Q q => by
  obtain ⟨p, vs, h1, h2, h3, h4, s'⟩ := s.frzL h
  exact he F σ _ H s' Q fun G' H' g => q _ H' (g.lend h3)
end

/-! ### isinstance of anything -/
def isiD (n : String) (d : D) : Bool := ((tyD d).bind fun t => kitB t n).getD false
section
variable {X : Cx} {Γ : List B} {pos p : Pos} {a b : Expr} {x : D}
theorem ed_isiD {n : String} {r : Bool} (hg : Gl X "isinstance") (hm : X.mg "isinstance" = none) (ha : ED X Γ a x) (hb : ED X Γ b (.ty n)) (hk : (tyD x).bind (fun t => kitB t n) = some r) (he : starEach [a, b] X.env = (false, eval a X.env) :: starEach [b] X.env := by exact starEach_ns rfl) (he2 : starEach [b] X.env = (false, eval b X.env) :: starEach [] X.env := by exact starEach_ns rfl)
    (hpl : (backTo pos (starEach [b] X.env)).any (·.1) = false := by exact plain_ok rfl) : ED X Γ (.Call (.Name "isinstance" p) [a, b] [] pos) (.bl r) := by
  cases ht : tyD x with
  | none =>
    rw [ht] at hk
    cases hk
  | some t =>
    rw [ht] at hk
    exact ed_isi hg hm ha hb ht hk he he2 hpl
end
section
variable {X : Cx} {Γ : List B} {pos : Pos} {a b : Expr}
/-- 1 << k -/
theorem od_shlW (k : Nat) (j : Int) (h : k ≤ 134217727) (e : j = (k : Int)) : OpD X (binaryOp .LShift) (.int 1) (.int j) (.int (2 ^ k)) := by
  rw [e]
  exact od_shl1 k h
end

def B16 : Int := 2 ^ 16000
theorem od_andB {X : Cx} (i : Int) : OpD X (binaryOp .BitAnd) (.int i) (.int ((2 : Int) ^ 16000 - 1)) (.int (i % B16)) := od_andM i _ 16000 rfl
/-! ### xs[i] = e of one's own list -/
section
variable {X : Cx} {E : XK} {Γ : List B} {S T : Type} {Γs : S → List B} {Γb : T → List B} {rest : List Stmt} {pos spos : Pos} {lv : Nat} {N : List Str} {sc : Scope} {y : Str} {py : Pos} {e ie : Expr}
theorem sst_sub {a b e : Expr} {p : Pos} {env : Env} : swappedStores [.Subscript a b p] e env = pure none := by
  unfold swappedStores
  cases e <;> rfl
theorem b_setI {τ : Type} {pa : Option Addr} (i : Nat) (enc : τ → D) {xs : List τ} {x : τ} {n : Nat} {k : List τ → Ctl S T} (hX : XOk lv N sc X) (hn : N[i]? = some y) (hl : Vis sc y) (h : Γ[i]? = some (B.own (.lst (xs.map enc)) pa)) (he : ED X Γ e (enc x)) (hi : ED X Γ ie (.int (n : Int))) (hz : n < xs.length)
    (hr : ∀ zs, zs = xs.set n x → BK X E (Γ.set i (.own (.lst (zs.map enc)) pa)) rest Γs Γb (k zs)) (hst : PSet X rSetL := by exact set_list)
    (hs : swapsWithSole [.Subscript (.Name y py) ie spos] e pos.line X.env = pure false := by exact sws_ns rfl) (hw : swappedStores [.Subscript (.Name y py) ie spos] e X.env = pure none := by exact sst_sub) (h1 : (assignEach [.Subscript (.Name y py) ie spos] X.env).map (·.2) = [assign (.Subscript (.Name y py) ie spos) X.env] := by rfl)
    (ha : ∀ v, assign (.Subscript (.Name y py) ie spos) X.env v = (do
      let ov ← holding [v] (eval (.Name y py) X.env)
      let iv ← holding [v, ov] (eval ie X.env)
      standAt spos
      holding [v, ov, iv] (setItem ov iv v)
      release [v, ov, iv] []) := by intro _; rfl) (hd : (y == ("__debug__" : Str)) = false := by decide) (hcd : (y == ("__classdict__" : Str)) = false := by decide) :
    BK X E Γ (.Assign [.Subscript (.Name y py) ie spos] e pos :: rest) Γs Γb (bnd (xs.set n x) k) := fun F G0 σ G H D s gr post => by
  obtain ⟨p, u, k1, k2, k3, k4, k5, _⟩ := s.own i _ _ h
  obtain ⟨vs, rfl, iv⟩ := k5.lst
  refine w_cons (ps_asg pe_w (pg_sub (pe_var (hX.nm hn) (hX.vs hl) hd hcd) pe_w hst ha) hs hw h1) ?_
  refine he F σ G H s _ fun v G1 H1 g1 i1 => ⟨_, k1, hi F σ G1 H1 (s.grow g1) _ fun w G2 H2 g2 i2 => ?_⟩
  cases i2
  have g := g1.trans g2
  have s2 := s.grow g
  have hlen : vs.length = xs.length := by rw [iv.len, List.length_map]
  refine ⟨p, vs, (n : Int), n, rfl, rfl, g.h _ _ k2, Evl.ixN_nat (by omega), ?_⟩
  have s3 := s2.mut (u := .lst (vs.set n v)) (o' := .lst ((xs.set n x).map enc)) h k1 (by
    show IsAll _ _ _ _
    rw [List.map_set]
    exact (iv.up g.g).set n (i1.up g2.g))
  have g3 := gr.trans g
  refine hr (xs.set n x) rfl F G0 σ G2 _ D s3 ⟨g3.g, fun b o eo => ?_, s3.sub, g3.f⟩ (post.up g.g)
  rw [upd_ne (ne_of_none eo k4)]
  exact g3.h b o eo
end
theorem wk_un (Γ Γ' : List B) (h : Γ' = List.replicate Γ.length B.un) : Wk Γ Γ' := by
  subst h
  induction Γ with
  | nil => exact .nil
  | cons b Γ ih => exact .drop ih
end Sd
namespace Sd
open PySem L2
end Sd
namespace Sd
open PySem L2
theorem ix_mem {α : Type} {xs : List α} {i : Int} (d : α) (h : -(xs.length : Int) ≤ i ∧ i < xs.length) : ix xs i d ∈ xs := at_mem (ix_ok (d := d) h)
theorem ix_all {α : Type} {P : α → Prop} {xs : List α} {i : Int} {d : α} (hp : ∀ x ∈ xs, P x) (h : -(xs.length : Int) ≤ i ∧ i < xs.length) : P (ix xs i d) := hp _ (ix_mem d h)
end Sd
namespace Sd
open PySem PySem.Spec PyProof.Rows L2
/-! small dicts -/
section
variable {X : Cx} {Γ : List B} {pos : Pos} {k v : Expr} {x : D}
theorem ed_dict0 : ED X Γ (.Dict [] [] pos) (.dct []) := ed_of pe_dnewK fun F σ G H s Q q p hp => q _ _ _ (Grow.new s.sub hp) (.dct upd_same .nil)
theorem ed_dict1 {l : List Nat} (hk : ED X Γ k (.str l)) (hv : ED X Γ v x) : ED X Γ (.Dict [some k] [v] pos) (.dct [(.inr (S l), x)]) :=
  ed_of (pe_disp (pps_cons pe_w pe_w pps_nil) rfl rfl (by simp) (by show 1 ≤ 15; decide)) fun F σ G H s Q q p hp => by
    have g0 : Grow G H G (upd H p (.dK [])) := Grow.lay s.sub hp
    refine hk F σ G _ (s.grow g0) _ fun u G1 H1 g1 i1 => hv F σ G1 H1 ((s.grow g0).grow g1) _ fun w G2 H2 g2 i2 => ?_
    have ok := i1.strOk
    cases i1
    have hp2 : H2 p = some (.dK []) := g2.h _ _ (g1.h _ _ upd_same)
    have n2 : G2 p = none := g2.f p _ (g1.h _ _ upd_same) (g1.f p _ upd_same (Evl.fresh_back s.sub hp))
    refine ⟨hp2, [(.inr (S l), w)], rfl, by show 1 ≤ 15; decide, ?_⟩
    have g := g1.trans g2
    refine q _ (upd G2 p (.dK (mergeK [] [(.inr (S l), w)]))) _ ⟨(g0.g.trans g.g).trans (Evl.Ex.new n2), fun b o e => ?_, fun b o e => ?_, fun b o e n => ?_⟩ (.dct upd_same (.cons ⟨l, rfl, ok⟩ (i2.up (Evl.Ex.new n2)) .nil))
    · have hb : b ≠ p := ne_of_none e hp
      rw [upd_ne hb]
      exact g.h b o (by rw [upd_ne hb]; exact e)
    · by_cases hb : b = p
      · subst hb
        rw [upd_same] at e ⊢
        exact e
      · rw [upd_ne hb] at e ⊢
        exact g2.s b o e
    · have hb : b ≠ p := ne_of_none e hp
      rw [upd_ne hb]
      exact g.f b o (by rw [upd_ne hb]; exact e) n
end
/-! anything plain, asked for its kind -/
def plainT (d : D) : Bool := (tyD d).isSome
theorem kit_all : (["NoneType", "bool", "int", "str", "list", "tuple", "dict"].all fun t => ["int", "bool", "str", "list", "tuple", "dict"].all fun n => (kitB t n).isSome) = true := by decide +kernel
theorem isi_ok {d : D} {n : String} (h : plainT d = true) (hn : (["int", "bool", "str", "list", "tuple", "dict"].contains n) = true) : (tyD d).bind (fun t => kitB t n) = some (isiD n d) := by
  unfold isiD
  have key : ∀ t ∈ ["NoneType", "bool", "int", "str", "list", "tuple", "dict"], ∃ r, kitB t n = some r := fun t ht => by
    have q := List.all_eq_true.mp kit_all t ht
    have q2 := List.all_eq_true.mp q n (by simpa using hn)
    exact Option.isSome_iff_exists.mp q2
  cases d with
  | non => obtain ⟨r, e⟩ := key "NoneType" (by simp); simp [tyD, e]
  | bl b => obtain ⟨r, e⟩ := key "bool" (by simp); simp [tyD, e]
  | int i => obtain ⟨r, e⟩ := key "int" (by simp); simp [tyD, e]
  | str l => obtain ⟨r, e⟩ := key "str" (by simp); simp [tyD, e]
  | lst l => obtain ⟨r, e⟩ := key "list" (by simp); simp [tyD, e]
  | tup l => obtain ⟨r, e⟩ := key "tuple" (by simp); simp [tyD, e]
  | dct l => obtain ⟨r, e⟩ := key "dict" (by simp); simp [tyD, e]
  | ty n => cases h
  | ins C l => cases h
  | scr l => cases h
  | fn l => cases h
  | exv n l => cases h
theorem isi_no {d : D} {n : String} (h : plainT d = true) (hn : (["int", "bool", "str", "list", "tuple", "dict"].contains n) = true) (hf : isiD n d = false) : (tyD d).bind (fun t => kitB t n) = some false := by rw [isi_ok h hn, hf]
end Sd

namespace Sd
open PySem L2
/-- a loop whose turns all go on alike -/
theorem loop_go {S Y T : Type} {step : S → Y → Ctl S S} {s : S} : ∀ {ys : List Y}, (∀ y ∈ ys, step s y = .go s) → (loop step s ys : Ctl S T) = .go s
  | [], _ => rfl
  | y :: ys, h => by
    show (match step s y with | .go s' => loop step s' ys | .brk s' => .go s' | .ret r => .ret r) = _
    rw [h y List.mem_cons_self]
    exact loop_go fun z hz => h z (List.mem_cons_of_mem _ hz)
end Sd
namespace Sd
open PySem L2
/-- a loop that looks for one and leaves -/
theorem loop_find {Y T : Type} {p : Y → Bool} {r : Res} : ∀ {ys : List Y}, (loop (S := Unit) (T := T) (fun (_ : Unit) (y : Y) => if p y = true then Ctl.up (.ret r) else .go ()) () ys) = if ys.any p = true then .ret r else .go ()
  | [] => rfl
  | y :: ys => by
    rw [List.any_cons]
    unfold loop
    cases h : p y with
    | true =>
      rw [if_pos rfl]
      rfl
    | false =>
      rw [if_neg Bool.false_ne_true, Bool.false_or]
      exact loop_find
theorem rints_any {n : Nat} {p : Int → Bool} : (rints 0 n).any p = true ↔ ∃ i : Nat, i < n ∧ p (i : Int) = true := by
  unfold rints
  rw [List.any_map, List.any_eq_true]
  constructor
  · rintro ⟨i, hi, h⟩
    refine ⟨i, List.mem_range.mp hi, ?_⟩
    simpa using h
  · rintro ⟨i, hi, h⟩
    exact ⟨i, List.mem_range.mpr hi, by simpa using h⟩
/-- two lists of one length told apart, place by place -/
theorem any_ne {α : Type} [DecidableEq α] {d : α} {xs ys : List α} (h : xs.length = ys.length) : (rints 0 ys.length).any (fun i => !decide (ix xs i d = ix ys i d)) = !decide (xs = ys) := by
  by_cases e : xs = ys
  · subst e
    rw [decide_eq_true rfl]
    apply Bool.eq_false_iff.mpr
    intro q
    obtain ⟨i, _, h2⟩ := rints_any.mp q
    simp at h2
  · rw [decide_eq_false e]
    show _ = true
    rw [rints_any]
    apply Classical.byContradiction
    intro hn
    refine e (List.ext_getElem h fun i h1 h2 => ?_)
    apply Classical.byContradiction
    intro hne
    refine hn ⟨i, h2, ?_⟩
    rw [ix_nat, ix_nat, List.getD_eq_getElem?_getD, List.getD_eq_getElem?_getD, List.getElem?_eq_getElem h1, List.getElem?_eq_getElem h2]
    simpa using hne
end Sd

namespace Sd
open PySem PySem.Spec PyProof.Rows L2

/-! ### what may raise -/
abbrev veTail : List Value := [.type "ValueError", .type "Exception", .type "BaseException", .type "object"]
/-- an own class of exceptions without own __init__, beneath ValueError -/
structure ExC (K : PySem.W.Frag) (mg : Str → Option Value) (x : Str) : Prop where
  ex : ∃ C, mg x = some (.ref C) ∧ PySem.W.nsIn K mainGlobals x = some (some (.ref C)) ∧ PySem.W.excIn K C veTail "ValueError.__new__" = true ∧ PySem.W.keepIn K (.ref C) = true ∧
    PySem.W.subIn K (.ref C) (.type "BaseException") = some true ∧ PySem.W.typeIn K (.ref C) = some (.type "type")
theorem PostR.grow {K : PySem.W.Frag} {F G0 G H : Hp} {E : XK} {rt : VK} {r : Res} (g : Grow G0 F G H) (h : PostR K F G0 E rt r) : PostR K H G E rt r := by
  cases r with
  | v x => exact fun v G' H' g' i => h v G' H' (g.trans g') i
  | o o => exact fun p u G' H' g' hp n hn ho => h p u G' H' (g.trans g') hp n (Evl.fresh_back g.h hn) ho
  | x e => exact fun cls d G' H' g' i => h cls d G' H' (g.trans g') i
  | m x p o => exact fun v u G' H' g' i => h v u G' H' (g.trans g') i
  | stk => exact h.elim
/-- comes to a value, to one's own thing, or raises -/
def EvRs (K : PySem.W.Frag) (E : L2.St → XK) (Γ : List B) (te : TE) (r : Res) : Prop := ∀ F σ G H, Stt K F Γ σ G H → ∀ Q : VK, PostR K H G (E σ) Q r → te σ H Q
abbrev ERs (X : Cx) (E : L2.St → XK) (Γ : List B) (e : Expr) (r : Res) : Prop := EvRs X.K E Γ (wE X e) r
abbrev EvR (K : PySem.W.Frag) (E : XK) (Γ : List B) (te : TE) (r : Res) : Prop := EvRs K (fun _ => E) Γ te r
abbrev ER (X : Cx) (E : XK) (Γ : List B) (e : Expr) (r : Res) : Prop := EvR X.K E Γ (wE X e) r
def resX {τ : Type} (enc : τ → D) : Except Exn τ → Res
  | .ok x => .v (enc x)
  | .error e => .x e
def resO {τ : Type} (enc : τ → OO) : Except Exn τ → Res
  | .ok x => .o (enc x)
  | .error e => .x e
section
variable {X : Cx} {E : XK} {Γ : List B} {e : Expr} {es : List Expr} {r : Res}
theorem er_of {t : TE} (h : PE X e t) (k : EvR X.K E Γ t r) : ER X E Γ e r := fun F σ G H s Q q => ⟨fun pins sh I => h.run pins sh σ H Q I (k F σ G H s Q q)⟩
theorem ed_ofR {τ : Type} {enc : τ → D} {r : Except Exn τ} {x : τ} (h : ER X E Γ e (resX enc r)) (hx : r = .ok x) : ED X Γ e (enc x) := fun F σ G H s Q q => h F σ G H s Q (by rw [hx]; exact q)
theorem eo_ofR {τ : Type} {enc : τ → OO} {r : Except Exn τ} {x : τ} (h : ER X E Γ e (resO enc r)) (hx : r = .ok x) : EO X Γ e (enc x) := fun F σ G H s Q q => h F σ G H s Q (by rw [hx]; exact q)
theorem er_call {pos p : Pos} {x : Str} {lv : Nat} {A : Type} {enc : A → List D} {pre : A → Prop} {res : A → Res} (a : A) (tk : Takes X (fun cls d _ H => E cls d H)) (hk : KnX X x lv (spF X.K enc pre res)) (hr : Room lv X.A) (hg : Gl X x) (ha : EA X Γ (e :: es) (enc a)) (hp : pre a)
    (hdb : (x == ("__debug__" : Str)) = false := by decide) (he : starEach (e :: es) X.env = (false, eval e X.env) :: starEach es X.env := by exact starEach_ns rfl) (hpl : (backTo pos (starEach es X.env)).any (·.1) = false := by exact plain_ok rfl) : ER X E Γ (.Call (.Name x p) (e :: es) [] pos) (res a) := by
  obtain ⟨f, fd, ps, h1, h2, h3, h4⟩ := hk.ex
  refine er_of (pe_call (E := E) h1 hr hg h2 h3 h4 .nil (passes_call tk fun _ _ _ _ h => h) pa_w hdb he hpl) fun F σ G H s Q q => ha F σ G H s _ fun vs G1 H1 g1 i1 => ?_
  rw [List.append_nil]
  exact ⟨a, G1, g1.s, i1, hp, PostR.grow g1 q⟩
end
section
variable {X : Cx} {E : XK} {Γ : List B} {S T : Type} {Γs : S → List B} {Γb : T → List B} {rest : List Stmt} {pos : Pos} {lv : Nat} {N : List Str} {sc : Scope} {y : Str} {py : Pos} {e : Expr}
theorem b_setR {τ : Type} (i : Nat) (enc : τ → D) {r : Except Exn τ} {k : τ → Ctl S T} (hX : XOk lv N sc X) (hn : N[i]? = some y) (hl : Loc sc y) (he : ER X E Γ e (resX enc r)) (hr : ∀ v, r = .ok v → BK X E (Γ.set i (.d (enc v))) rest Γs Γb (k v)) (hs : swapsWith e (some (.Name y py)) pos.line X.env = pure false := by exact sw_ns rfl) :
    BK X E Γ (.Assign [.Name y py] e pos :: rest) Γs Γb (bndX r k) := fun F G0 σ G H D s gr post =>
  w_cons (ps_set hX.nd (hX.nm hn) (hX.lc hl) pe_w hs (.inl (hX.fn y))) (he F σ G H s _ (by
    cases r with
    | ok x => exact fun v G1 H1 g1 i1 => hr x rfl F G0 _ G1 H1 D ((s.grow g1).set i i1) (gr.trans g1) (PostC.up post g1.g)
    | error x => exact PostR.grow gr (show PostR X.K F G0 E D.rt (.x x) from post)))
theorem b_setRO {τ : Type} (i : Nat) (enc : τ → OO) {r : Except Exn τ} {k : τ → Ctl S T} (hX : XOk lv N sc X) (hn : N[i]? = some y) (hl : Loc sc y) (he : ER X E Γ e (resO enc r)) (hr : ∀ v, r = .ok v → BK X E (Γ.set i (.own (enc v))) rest Γs Γb (k v)) (hs : swapsWith e (some (.Name y py)) pos.line X.env = pure false := by exact sw_ns rfl) :
    BK X E Γ (.Assign [.Name y py] e pos :: rest) Γs Γb (bndX r k) := fun F G0 σ G H D s gr post =>
  w_cons (ps_set hX.nd (hX.nm hn) (hX.lc hl) pe_w hs (.inl (hX.fn y))) (he F σ G H s _ (by
    cases r with
    | ok x => exact fun p u G1 H1 g1 hp n hn ho => hr x rfl F G0 _ G1 H1 D ((s.grow g1).setO i hp n (Evl.fresh_back gr.h hn) ho (fun j o' _ _ e z => s.fresh hn e z) fun j x p' qs _ e a => s.tre.fresh g1 hn e a) (gr.trans g1) (PostC.up post g1.g)
    | error x => exact PostR.grow gr (show PostR X.K F G0 E D.rt (.x x) from post)))
theorem b_setRT {τ : Type} (enc : τ → D) {r : Except Exn τ} {k : τ → Ctl S T} {tg : Expr} {g : TG} {js : List Nat} (Γ' : τ → List B) (hg : PG X tg g) (htg : ∀ v, TgD X.K g js Γ (enc v) (Γ' v)) (he : ER X E Γ e (resX enc r)) (hr : ∀ v, r = .ok v → BK X E (Γ' v) rest Γs Γb (k v))
    (hs : swapsWithSole [tg] e pos.line X.env = pure false := by exact sws_ns rfl) (hw : swappedStores [tg] e X.env = pure none := by exact sst_ns rfl) (h1 : (assignEach [tg] X.env).map (·.2) = [assign tg X.env] := by rfl) : BK X E Γ (.Assign [tg] e pos :: rest) Γs Γb (bndX r k) := fun F G0 σ G H D s gr post =>
  w_cons (ps_asg pe_w hg hs hw h1) (he F σ G H s _ (by
    cases r with
    | ok x => exact fun v G1 H1 g1 i1 => htg x F σ G1 H1 v (s.grow g1) i1 _ fun ws s' => hr x rfl F G0 _ G1 H1 D s' (gr.trans g1) (PostC.up post g1.g)
    | error x => exact PostR.grow gr (show PostR X.K F G0 E D.rt (.x x) from post)))
theorem b_retR {r : Res} (he : ER X E Γ e r) : BK X E Γ (.Return (some e) pos :: rest) Γs Γb (.ret r) := fun F G0 σ G H D s gr post => w_cons (ps_ret pe_w) (he F σ G H s _ (PostR.grow gr post))
/-- raise X('m') -/
theorem b_raise {x m : Str} {j : Nat} {p p2 cpos : Pos} (hM : XCm X E) (hX : XOk lv N sc X) (hc : ExC X.K X.mg x) (hg : Gl X x) (hdb : (x == ("__debug__" : Str)) = false := by decide) :
    BK X E Γ (.Raise (some (.Call (.Name x p) [.Constant (.str m) j p2] [] cpos)) none pos :: rest) Γs Γb (.ret (.x ⟨x, []⟩)) := fun F G0 σ G H D s gr post => by
  obtain ⟨C, h1, h2, h3, h4, h5, h6⟩ := hc.ex
  refine w_cons (ps_raise hM.calm hM.takes (pmk_own PySem.F.excBase_ValueError h3 h1 h4 (raises_own h5 h6) hg hdb)) ?_
  exact post (.ref C) none G H gr ⟨h2, fun n => absurd rfl n, fun _ => rfl⟩
end

/-! ### data told as one kind -/
section
variable {X : Cx} {Γ : List B} {e : Expr} {x y : D}
theorem ed_cast (h : x = y) (he : ED X Γ e x) : ED X Γ e y := h ▸ he
end
def asI : D → Int
  | .int i => i
  | _ => 0
def asS : D → List Nat
  | .str s => s
  | _ => []
def asB : D → Bool
  | .bl b => b
  | _ => false
def asSs : D → List (List Nat)
  | .tup xs => xs.map asS
  | .lst xs => xs.map asS
  | _ => []

/-! ### int(..), str(..), list(..), tuple(..) -/
section
variable {X : Cx} {Γ : List B} {pos p : Pos} {a b : Expr} {ds : List D}
theorem ed_intB {k : Bool} (hg : Gl X "int") (hm : X.mg "int" = none) (ha : ED X Γ a (.bl k)) (he : starEach [a] X.env = (false, eval a X.env) :: starEach [] X.env := by exact starEach_ns rfl) (hpl : (backTo pos (starEach [] X.env)).any (·.1) = false := by exact plain_ok rfl) : ED X Γ (.Call (.Name "int" p) [a] [] pos) (.int (if k then 1 else 0)) :=
  ed_callTy call_int1 hg hm (by decide +kernel) (ea_cons ha ea_nil he) (fun vs G H ex i Q q => by
    cases i with
    | cons i1 i2 =>
      cases i1
      cases i2
      exact .inr ⟨_, rfl, q _ G H (.refl ex) (.int _)⟩) (by decide) (by decide) he hpl
theorem ed_intI {k : Int} (hg : Gl X "int") (hm : X.mg "int" = none) (ha : ED X Γ a (.int k)) (he : starEach [a] X.env = (false, eval a X.env) :: starEach [] X.env := by exact starEach_ns rfl) (hpl : (backTo pos (starEach [] X.env)).any (·.1) = false := by exact plain_ok rfl) : ED X Γ (.Call (.Name "int" p) [a] [] pos) (.int k) :=
  ed_callTy call_int1 hg hm (by decide +kernel) (ea_cons ha ea_nil he) (fun vs G H ex i Q q => by
    cases i with
    | cons i1 i2 =>
      cases i1
      cases i2
      exact .inl ⟨_, rfl, q _ G H (.refl ex) (.int _)⟩) (by decide) (by decide) he hpl
def strI (i : Int) : List Nat := (Str.ofString (toString i)).cps.toList
theorem S_strI (i : Int) : S (strI i) = Str.ofString (toString i) := by simp [S, strI]
theorem strI_nat (n : Nat) : strI (n : Int) = TL.numL n := TL.tl_num n
theorem strI_neg (n : Nat) : strI (Int.negSucc n) = 45 :: TL.numL (n + 1) := by
  have e : toString (Int.negSucc n) = "-" ++ Nat.repr (n + 1) := rfl
  unfold strI
  rw [e, PySem.Str.ofString_eq_toList]
  show (("-" ++ Nat.repr (n + 1)).toList.map Char.toNat) = _
  rw [String.toList_append, List.map_append, Nat.toList_repr]
  rfl
theorem numL_chr (n : Nat) : chrOk (TL.numL n) = true := by
  unfold chrOk
  rw [List.all_eq_true]
  intro c hc
  have := TL.numL_digits n c hc
  exact decide_eq_true (by omega)
theorem log10 {n : Nat} (h : n.log2 < 1920) : n < 10 ^ 1920 := by
  have h1 : n < 2 ^ (n.log2 + 1) := Nat.lt_log2_self
  have h2 : 2 ^ (n.log2 + 1) ≤ 2 ^ 1920 := Nat.pow_le_pow_right (by decide) (by omega)
  have h3 : (2 : Nat) ^ 1920 ≤ 10 ^ 1920 := Nat.pow_le_pow_left (by decide) 1920
  omega
theorem numL_ok {n : Nat} (h : n.log2 < 1920) : (TL.numL n).length ≤ 1920 := TL.numL_len (by decide) (log10 h)
theorem strI_ok {k : Int} (h : k.natAbs.log2 < 1920) : StrOk (strI k) := by
  cases k with
  | ofNat n =>
    show StrOk (strI (n : Int))
    rw [strI_nat]
    exact ⟨Nat.le_trans (numL_ok h) (by unfold LMax; decide), numL_chr n⟩
  | negSucc n =>
    rw [strI_neg]
    have q := numL_ok (n := n + 1) h
    exact ⟨by rw [List.length_cons]; unfold LMax; omega, chrOk_app (l := [45]) rfl (numL_chr _)⟩
def natOf (s : List Nat) : Int := (NumText.digitsVal s : Nat)
theorem ed_strI {k : Int} (hg : Gl X "str") (hm : X.mg "str" = none) (ha : ED X Γ a (.int k)) (hz : k.natAbs.log2 < 1920) (he : starEach [a] X.env = (false, eval a X.env) :: starEach [] X.env := by exact starEach_ns rfl) (hpl : (backTo pos (starEach [] X.env)).any (·.1) = false := by exact plain_ok rfl) : ED X Γ (.Call (.Name "str" p) [a] [] pos) (.str (strI k)) :=
  ed_callTy call_str_int hg hm (by decide +kernel) (ea_cons ha ea_nil he) (fun vs G H ex i Q q => by
    cases i with
    | cons i1 i2 =>
      cases i1
      cases i2
      refine ⟨_, rfl, hz, ?_⟩
      have h := q (.str (S (strI k))) G H (.refl ex) (.str _ (strI_ok hz))
      rw [S_strI] at h
      exact h) (by decide) (by decide) he hpl
theorem ed_intS {s : List Nat} (hg : Gl X "int") (hm : X.mg "int" = none) (ha : ED X Γ a (.str s)) (hd : NumText.AllDigits s) (h1 : s ≠ []) (h2 : s.length ≤ 640) (he : starEach [a] X.env = (false, eval a X.env) :: starEach [] X.env := by exact starEach_ns rfl) (hpl : (backTo pos (starEach [] X.env)).any (·.1) = false := by exact plain_ok rfl) : ED X Γ (.Call (.Name "int" p) [a] [] pos) (.int (natOf s)) :=
  ed_callTy call_int_str hg hm (by decide +kernel) (ea_cons ha ea_nil he) (fun vs G H ex i Q q => by
    cases i with
    | cons i1 i2 =>
      cases i1
      cases i2
      refine ⟨_, _, rfl, PySem.intText_digits (x := S s) (by simpa [S] using hd) (by simpa [S] using h1) (by rw [S_len]; omega), by rw [S_len]; exact h2, ?_⟩
      have e : (S s).cps.toList = s := by simp [S]
      rw [e]
      exact q _ G H (.refl ex) (.int _)) (by decide) (by decide) he hpl
/-- list(xs), xs a list that may be read -/
theorem eo_listL (hg : Gl X "list") (hm : X.mg "list" = none) (ha : EL X Γ a ds) (he : starEach [a] X.env = (false, eval a X.env) :: starEach [] X.env := by exact starEach_ns rfl) (hpl : (backTo pos (starEach [] X.env)).any (·.1) = false := by exact plain_ok rfl) : EO X Γ (.Call (.Name "list" p) [a] [] pos) (.lst ds) :=
  eo_of (pe_callTy call_list_of hg hm (by decide +kernel) (pa_cons pe_w pa_nil he) (by decide) (by decide) he hpl) fun F σ G H s Q q => ha F σ G H s _ fun p vs G1 H1 g1 h1 i1 =>
    ⟨p, vs, rfl, .inl (.inl (.inl h1)), fun l hl => q l _ G1 _ (g1.trans (Grow.lay g1.s hl)) upd_same (Evl.fresh_back g1.s hl) (Evl.fresh_back g1.h hl) i1⟩
/-- tuple(xs) -/
theorem ed_tupL (hg : Gl X "tuple") (hm : X.mg "tuple" = none) (ha : EL X Γ a ds) (he : starEach [a] X.env = (false, eval a X.env) :: starEach [] X.env := by exact starEach_ns rfl) (hpl : (backTo pos (starEach [] X.env)).any (·.1) = false := by exact plain_ok rfl) : ED X Γ (.Call (.Name "tuple" p) [a] [] pos) (.tup ds) :=
  ed_of (pe_callTy call_tuple_of hg hm (by decide +kernel) (pa_cons pe_w pa_nil he) (by decide) (by decide) he hpl) fun F σ G H s Q q => ha F σ G H s _ fun p vs G1 H1 g1 h1 i1 =>
    ⟨p, vs, rfl, .inl ⟨.inl (.inl h1), fun l hl => q _ _ _ (g1.trans (Grow.new g1.s hl)) (.tup (.inl (.inl upd_same)) (i1.up (Evl.Ex.new (Evl.fresh_back g1.s hl))))⟩⟩
end

/-! ### == of nested data -/
mutual
def pyD : D → PyData
  | .bl b => .bool b
  | .int i => .int i
  | .str l => .str (S l)
  | .lst xs => .list (pyDs xs)
  | .tup xs => .tuple (pyDs xs)
  | _ => .none
def pyDs : List D → List PyData
  | [] => []
  | x :: xs => pyD x :: pyDs xs
end
/-- data of that depth that == goes through -/
def eqk : Nat → D → Bool
  | _, .non => true
  | _, .bl _ => true
  | _, .int _ => true
  | _, .str _ => true
  | n + 1, .lst xs => xs.all (eqk n)
  | n + 1, .tup xs => xs.all (eqk n)
  | _, _ => false
theorem chrOk_S {l : List Nat} (h : chrOk l = true) : PyData.canLay0 (.str (S l)) = true := by
  unfold PyData.canLay0 PyData.strOk
  simpa [S, chrOk] using h
theorem can_pys {K : PySem.W.Frag} {G : Hp} {n : Nat} (ih : ∀ d v, Is K G v d → eqk n d = true → (pyD d).canLay0 = true) : ∀ (xs : List D) (vs : List V), IsAll K G vs xs → xs.all (eqk n) = true → PyData.canLayAll0 (pyDs xs) = true
  | [], _, _, _ => rfl
  | x :: xs, _, h, e => by
    rw [List.all_cons, Bool.and_eq_true] at e
    cases h with
    | cons h1 h2 =>
      show (PyData.canLay0 (pyD x) && PyData.canLayAll0 (pyDs xs)) = true
      rw [ih _ _ h1 e.1, can_pys ih xs _ h2 e.2]
      rfl
theorem can_py {K : PySem.W.Frag} {G : Hp} : ∀ (n : Nat) (d : D) (v : V), Is K G v d → eqk n d = true → (pyD d).canLay0 = true
  | _, .non, _, _, _ => rfl
  | _, .bl _, _, _, _ => rfl
  | _, .int _, _, _, _ => rfl
  | n, .str l, _, h, _ => chrOk_S h.strOk.chr
  | 0, .lst _, _, _, h => nomatch h
  | 0, .tup _, _, _, h => nomatch h
  | n + 1, .lst xs, _, h, e => by
    cases h with
    | lst _ h2 => exact can_pys (fun d v => can_py n d v) xs _ h2 e
  | n + 1, .tup xs, _, h, e => by
    cases h with
    | tup _ h2 => exact can_pys (fun d v => can_py n d v) xs _ h2 e
  | 0, .ty _, _, _, h => nomatch h
  | 0, .dct _, _, _, h => nomatch h
  | 0, .ins _ _, _, _, h => nomatch h
  | 0, .scr _, _, _, h => nomatch h
  | 0, .fn _, _, _, h => nomatch h
  | 0, .exv _ _, _, _, h => nomatch h
  | _ + 1, .ty _, _, _, h => nomatch h
  | _ + 1, .dct _, _, _, h => nomatch h
  | _ + 1, .ins _ _, _, _, h => nomatch h
  | _ + 1, .scr _, _, _, h => nomatch h
  | _ + 1, .fn _, _, _, h => nomatch h
  | _ + 1, .exv _ _, _, _, h => nomatch h
theorem eqk_pys {n : Nat} (ih : ∀ d, eqk n d = true → (pyD d).depth ≤ n) : ∀ xs : List D, xs.all (eqk n) = true → PyData.depthAll (pyDs xs) ≤ n
  | [], _ => Nat.zero_le _
  | x :: xs, h => by
    rw [List.all_cons, Bool.and_eq_true] at h
    have h1 := ih x h.1
    have h2 := eqk_pys ih xs h.2
    show max (pyD x).depth (PyData.depthAll (pyDs xs)) ≤ n
    omega
theorem eqk_py : ∀ (n : Nat) (d : D), eqk n d = true → (pyD d).depth ≤ n
  | _, .non, _ => Nat.zero_le _
  | _, .bl _, _ => Nat.zero_le _
  | _, .int _, _ => Nat.zero_le _
  | _, .str l, h => Nat.zero_le _
  | 0, .lst _, h => nomatch h
  | 0, .tup _, h => nomatch h
  | n + 1, .lst xs, h => Nat.succ_le_succ (eqk_pys (fun d => eqk_py n d) xs h)
  | n + 1, .tup xs, h => Nat.succ_le_succ (eqk_pys (fun d => eqk_py n d) xs h)
  | 0, .ty _, h => nomatch h
  | 0, .dct _, h => nomatch h
  | 0, .ins _ _, h => nomatch h
  | 0, .scr _, h => nomatch h
  | 0, .fn _, h => nomatch h
  | 0, .exv _ _, h => nomatch h
  | _ + 1, .ty _, h => nomatch h
  | _ + 1, .dct _, h => nomatch h
  | _ + 1, .ins _ _, h => nomatch h
  | _ + 1, .scr _, h => nomatch h
  | _ + 1, .fn _, h => nomatch h
  | _ + 1, .exv _ _, h => nomatch h
theorem dps_of {K : PySem.W.Frag} {G H : Hp} {n : Nat} (ih : ∀ d v, Is K G v d → eqk n d = true → Dp K H v (pyD d)) : ∀ (xs : List D) (vs : List V), IsAll K G vs xs → xs.all (eqk n) = true → DpAll K H vs (pyDs xs)
  | [], _, h, _ => by cases h; exact .nil
  | x :: xs, _, h, e => by
    rw [List.all_cons, Bool.and_eq_true] at e
    cases h with
    | cons h1 h2 => exact .cons (ih _ _ h1 e.1) (dps_of ih xs _ h2 e.2)
theorem dp_of {K : PySem.W.Frag} {G H : Hp} (ex : Ex G H) : ∀ (n : Nat) (d : D) (v : V), Is K G v d → eqk n d = true → Dp K H v (pyD d)
  | _, .non, _, h, _ => by cases h; exact .non
  | _, .bl _, _, h, _ => by cases h; exact .bl _
  | _, .int _, _, h, _ => by cases h; exact .int _
  | n, .str l, _, h, _ => by cases h; exact .str _
  | 0, .lst _, _, _, e => nomatch e
  | 0, .tup _, _, _, e => nomatch e
  | n + 1, .lst xs, _, h, e => by
    cases h with
    | lst h1 h2 => exact .lst (.inl (.inl (ex _ _ h1))) (dps_of (dp_of ex n) xs _ h2 e)
  | n + 1, .tup xs, _, h, e => by
    cases h with
    | tup h1 h2 => exact .tup (Evl.ex_t ex h1) (dps_of (dp_of ex n) xs _ h2 e)
  | 0, .ty _, _, _, e => nomatch e
  | 0, .dct _, _, _, e => nomatch e
  | 0, .ins _ _, _, _, e => nomatch e
  | 0, .scr _, _, _, e => nomatch e
  | 0, .fn _, _, _, e => nomatch e
  | 0, .exv _ _, _, _, e => nomatch e
  | _ + 1, .ty _, _, _, e => nomatch e
  | _ + 1, .dct _, _, _, e => nomatch e
  | _ + 1, .ins _ _, _, _, e => nomatch e
  | _ + 1, .scr _, _, _, e => nomatch e
  | _ + 1, .fn _, _, _, e => nomatch e
  | _ + 1, .exv _ _, _, _, e => nomatch e
theorem eqk_shaped {K : PySem.W.Frag} {G : Hp} {v : V} {n : Nat} {d : D} (i : Is K G v d) (h : eqk n d = true) (hn : n ≤ 64) : SeqAt.shaped (pyD d) = true := by
  have q := eqk_py n d h
  unfold SeqAt.shaped
  rw [can_py n d v i h, Bool.true_and]
  exact decide_eq_true (Nat.le_trans q hn)
def eqD (x y : D) : Bool := PyData.eqv (pyD x) (pyD y)
section
variable {X : Cx} {x y : D}
theorem room64 {lv : Nat} {A : Around} (h : RoomB lv A) : A.units + 64 < cLine := by
  have := h.un
  omega
theorem od_eqD (n : Nat) (hu : X.A.units + 64 < cLine) (hx : eqk n x = true) (hy : eqk n y = true) (hn : n ≤ 64) : OpD X (compareOp .Eq) x y (.bl (eqD x y)) := ⟨_, op_eqD hu, fun v w G H e iv iw Q q =>
  ⟨_, _, dp_of e n _ _ iv hx, dp_of e n _ _ iw hy, eqk_shaped iv hx hn, eqk_shaped iw hy hn, q _ G H (.refl e) (.bl _)⟩⟩
theorem od_neD (n : Nat) (hu : X.A.units + 64 < cLine) (hx : eqk n x = true) (hy : eqk n y = true) (hn : n ≤ 64) : OpD X (compareOp .NotEq) x y (.bl (!eqD x y)) := ⟨_, op_neD hu, fun v w G H e iv iw Q q =>
  ⟨_, _, dp_of e n _ _ iv hx, dp_of e n _ _ iw hy, eqk_shaped iv hx hn, eqk_shaped iw hy hn, q _ G H (.refl e) (.bl _)⟩⟩
/-! .. of data of one kind: as the Lean values are alike -/
/-- a kind of data that == goes through, and tells apart as Lean does -/
structure EqT {τ : Type} [DecidableEq τ] (n : Nat) (enc : τ → D) : Prop where
  k : ∀ a, eqk n (enc a) = true
  eq : ∀ a b, eqD (enc a) (enc b) = decide (a = b)
theorem eqT_int (n : Nat) : EqT n D.int := ⟨fun _ => by cases n <;> rfl, fun a b => by
  show (a == b) = decide (a = b)
  rfl⟩
theorem eqT_bl (n : Nat) : EqT n D.bl := ⟨fun _ => by cases n <;> rfl, fun a b => by
  show (a == b) = decide (a = b)
  cases a <;> cases b <;> rfl⟩
theorem eqT_str (n : Nat) : EqT n D.str := ⟨fun _ => by cases n <;> rfl, fun a b => by
  show (S a == S b) = decide (a = b)
  by_cases h : a = b
  · subst h
    simp
  · rw [decide_eq_false h]
    exact beq_eq_false_iff_ne.mpr fun z => h (S_inj.mp z)⟩
theorem eqT_all {τ : Type} [DecidableEq τ] {n : Nat} {enc : τ → D} (h : EqT n enc) : ∀ a b : List τ, PyData.eqvAll (pyDs (a.map enc)) (pyDs (b.map enc)) = decide (a = b)
  | [], [] => rfl
  | [], _ :: _ => rfl
  | _ :: _, [] => rfl
  | x :: a, y :: b => by
    show (PyData.eqv (pyD (enc x)) (pyD (enc y)) && PyData.eqvAll (pyDs (a.map enc)) (pyDs (b.map enc))) = _
    rw [eqT_all h a b, show PyData.eqv (pyD (enc x)) (pyD (enc y)) = decide (x = y) from h.eq x y]
    by_cases e : x = y
    · subst e
      by_cases f : a = b
      · subst f
        simp
      · simp [f]
    · simp [e]
theorem eqT_lst {τ : Type} [DecidableEq τ] {n : Nat} {enc : τ → D} (h : EqT n enc) : EqT (n + 1) (fun l : List τ => D.lst (l.map enc)) := ⟨fun a => by
  show (a.map enc).all (eqk n) = true
  rw [List.all_map, List.all_eq_true]
  exact fun x _ => h.k x, fun a b => eqT_all h a b⟩
theorem eqT_vt {τ : Type} [DecidableEq τ] {n : Nat} {enc : τ → D} (h : EqT n enc) : EqT (n + 1) (fun l : List τ => D.tup (l.map enc)) := ⟨fun a => by
  show (a.map enc).all (eqk n) = true
  rw [List.all_map, List.all_eq_true]
  exact fun x _ => h.k x, fun a b => eqT_all h a b⟩
theorem eqT_t2 {α β : Type} [DecidableEq α] [DecidableEq β] {n : Nat} {f : α → D} {g : β → D} (h : EqT n f) (k : EqT n g) : EqT (n + 1) (fun z : α × β => D.tup [f z.1, g z.2]) := ⟨fun a => by
  show (eqk n (f a.1) && (eqk n (g a.2) && true)) = true
  rw [h.k, k.k]
  rfl, fun a b => by
  show (PyData.eqv (pyD (f a.1)) (pyD (f b.1)) && (PyData.eqv (pyD (g a.2)) (pyD (g b.2)) && true)) = _
  rw [show PyData.eqv (pyD (f a.1)) (pyD (f b.1)) = _ from h.eq _ _, show PyData.eqv (pyD (g a.2)) (pyD (g b.2)) = _ from k.eq _ _]
  obtain ⟨a1, a2⟩ := a
  obtain ⟨b1, b2⟩ := b
  simp only [Bool.and_true, Prod.mk.injEq, Bool.decide_and]⟩
theorem eqT_t3 {α β γ : Type} [DecidableEq α] [DecidableEq β] [DecidableEq γ] {n : Nat} {f : α → D} {g : β → D} {u : γ → D} (h : EqT n f) (k : EqT n g) (l : EqT n u) : EqT (n + 1) (fun z : α × β × γ => D.tup [f z.1, g z.2.1, u z.2.2]) := ⟨fun a => by
  show (eqk n (f a.1) && (eqk n (g a.2.1) && (eqk n (u a.2.2) && true))) = true
  rw [h.k, k.k, l.k]
  rfl, fun a b => by
  show (PyData.eqv (pyD (f a.1)) (pyD (f b.1)) && (PyData.eqv (pyD (g a.2.1)) (pyD (g b.2.1)) && (PyData.eqv (pyD (u a.2.2)) (pyD (u b.2.2)) && true))) = _
  rw [show PyData.eqv (pyD (f a.1)) (pyD (f b.1)) = _ from h.eq _ _, show PyData.eqv (pyD (g a.2.1)) (pyD (g b.2.1)) = _ from k.eq _ _, show PyData.eqv (pyD (u a.2.2)) (pyD (u b.2.2)) = _ from l.eq _ _]
  obtain ⟨a1, a2, a3⟩ := a
  obtain ⟨b1, b2, b3⟩ := b
  simp only [Bool.and_true, Prod.mk.injEq, Bool.decide_and]⟩
theorem eqT_t4 {α β γ δ : Type} [DecidableEq α] [DecidableEq β] [DecidableEq γ] [DecidableEq δ] {n : Nat} {f : α → D} {g : β → D} {u : γ → D} {v : δ → D} (h : EqT n f) (k : EqT n g) (l : EqT n u) (m : EqT n v) : EqT (n + 1) (fun z : α × β × γ × δ => D.tup [f z.1, g z.2.1, u z.2.2.1, v z.2.2.2]) := ⟨fun a => by
  show (eqk n (f a.1) && (eqk n (g a.2.1) && (eqk n (u a.2.2.1) && (eqk n (v a.2.2.2) && true)))) = true
  rw [h.k, k.k, l.k, m.k]
  rfl, fun a b => by
  show (PyData.eqv (pyD (f a.1)) (pyD (f b.1)) && (PyData.eqv (pyD (g a.2.1)) (pyD (g b.2.1)) && (PyData.eqv (pyD (u a.2.2.1)) (pyD (u b.2.2.1)) && (PyData.eqv (pyD (v a.2.2.2)) (pyD (v b.2.2.2)) && true)))) = _
  rw [show PyData.eqv (pyD (f a.1)) (pyD (f b.1)) = _ from h.eq _ _, show PyData.eqv (pyD (g a.2.1)) (pyD (g b.2.1)) = _ from k.eq _ _, show PyData.eqv (pyD (u a.2.2.1)) (pyD (u b.2.2.1)) = _ from l.eq _ _, show PyData.eqv (pyD (v a.2.2.2)) (pyD (v b.2.2.2)) = _ from m.eq _ _]
  obtain ⟨a1, a2, a3, a4⟩ := a
  obtain ⟨b1, b2, b3, b4⟩ := b
  simp only [Bool.and_true, Prod.mk.injEq, Bool.decide_and]⟩
theorem od_eqT {τ : Type} [DecidableEq τ] {n : Nat} {enc : τ → D} (h : EqT n enc) (hu : X.A.units + 64 < cLine) (a b : τ) (hn : n ≤ 64 := by decide) : OpD X (compareOp .Eq) (enc a) (enc b) (.bl (decide (a = b))) := by
  rw [← h.eq]
  exact od_eqD n hu (h.k a) (h.k b) hn
theorem od_neT {τ : Type} [DecidableEq τ] {n : Nat} {enc : τ → D} (h : EqT n enc) (hu : X.A.units + 64 < cLine) (a b : τ) (hn : n ≤ 64 := by decide) : OpD X (compareOp .NotEq) (enc a) (enc b) (.bl (!decide (a = b))) := by
  rw [← h.eq]
  exact od_neD n hu (h.k a) (h.k b) hn

/-! ### a text some times -/
theorem op_mul_str : OpR X (binaryOp .Mult) (fun x y H Q => ∃ (l : List Nat) (n : Int), x = .str (S l) ∧ y = .int n ∧ 0 ≤ n ∧ n ≤ 16000 ∧ l.length ≤ 1000 ∧ Q (.str (S (List.replicate n.toNat l).flatten)) H) := by
  intro pins s σ H x y v u Q I rx ry h
  obtain ⟨l, n, rfl, rfl, h0, h1, h2, q⟩ := h
  obtain ⟨t, rfl⟩ := rx
  obtain ⟨t', rfl⟩ := ry
  have hlen : (S l).length = l.length := S_len l
  have hm : (S l).length * n.toNat ≤ 16000000 := by
    rw [hlen]
    exact Nat.le_trans (Nat.mul_le_mul h2 (show n.toNat ≤ 16000 by omega)) (by decide)
  have hflat : ∀ (m : Nat) (acc : List Nat), (List.replicate m (S l).cps).foldl (· ++ ·) acc.toArray = (acc ++ (List.replicate m l).flatten).toArray := by
    intro m
    induction m with
    | zero => intro acc; simp
    | succ m ih =>
      intro acc
      rw [List.replicate_succ, List.foldl_cons, List.replicate_succ, List.flatten_cons]
      have e : acc.toArray ++ (S l).cps = (acc ++ l).toArray := by simp [S]
      rw [e, ih, List.append_assoc]
  refine PySem.P.mul_str ?_ ?_ ?_ ?_
  · rw [decide_eq_false (by omega), decide_eq_false (by omega)] <;> rfl
  · intro hn hc
    have hz : 0 < n := by omega
    intro hgt
    have a1 : ((S l).length : Int) ≤ 1000 := by rw [hlen]; omega
    have a2 : (2 ^ 63 - 1 : Int) / 16000 ≤ (2 ^ 63 - 1) / n := by
      apply Int.le_ediv_of_mul_le hz
      have a3 : (2 ^ 63 - 1 : Int) / 16000 * n ≤ (2 ^ 63 - 1 : Int) / 16000 * 16000 := Int.mul_le_mul_of_nonneg_left h1 (by decide)
      omega
    omega
  · intro hn hc
    show decide (_ > sizeLine) = false
    rw [decide_eq_false]
    rw [sizeLine_eq]
    omega
  · by_cases hn : n < 1
    · rw [if_pos hn]
      have hz : n = 0 := by omega
      subst hz
      exact ⟨by decide, .str _, H, I.tok _, ⟨_, rfl⟩, q⟩
    · rw [if_neg hn]
      by_cases hc : (n == 1 || (S l).length == 0) = true
      · rw [if_pos hc]
        have e : (List.replicate n.toNat l).flatten = l := by
          rw [Bool.or_eq_true, beq_iff_eq, beq_iff_eq] at hc
          rcases hc with hc | hc
          · subst hc
            simp
          · rw [hlen] at hc
            have : l = [] := List.eq_nil_of_length_eq_zero hc
            subst this
            induction n.toNat with
            | zero => rfl
            | succ m ih => rw [List.replicate_succ, List.flatten_cons, ih]; rfl
        rw [e] at q
        exact ⟨.str _, H, I, ⟨_, rfl⟩, q⟩
      · rw [if_neg hc]
        have e := hflat n.toNat []
        rw [List.nil_append] at e
        have e' : (⟨(List.replicate n.toNat (S l).cps).foldl (· ++ ·) #[]⟩ : Str) = S (List.replicate n.toNat l).flatten := by
          unfold S
          rw [← e]
        rw [e']
        refine ⟨?_, .str _, H, I.tok _, ⟨_, rfl⟩, q⟩
        rw [S_len, List.length_flatten, List.map_replicate, List.sum_replicate_nat, sizeLine_eq]
        rw [hlen, Nat.mul_comm] at hm
        omega
theorem od_mulS {l : List Nat} {n : Int} (h0 : 0 ≤ n) (h1 : n ≤ 16000) (h2 : l.length ≤ 1000) : OpD X (binaryOp .Mult) (.str l) (.int n) (.str (List.replicate n.toNat l).flatten) := ⟨_, op_mul_str, fun v w G H e iv iw Q q => by
  have a := iv.strOk
  cases iv
  cases iw
  refine ⟨_, _, rfl, rfl, h0, h1, h2, q _ G H (.refl e) (.str _ ⟨?_, chrOk_sub a.chr fun x hx => ?_⟩)⟩
  · rw [List.length_flatten, List.map_replicate, List.sum_replicate_nat]
    exact Nat.le_trans (Nat.mul_le_mul (show n.toNat ≤ 16000 by omega) h2) (by unfold LMax; decide)
  · obtain ⟨m, h3, h4⟩ := List.mem_flatten.mp hx
    rw [List.eq_of_mem_replicate h3] at h4
    exact h4⟩
end
end Sd

namespace Sd
open PySem PySem.Spec PyProof.Rows L2
/-! ### range with a step -/
def rintsS (lo c : Int) (n : Nat) : List Int := (List.range n).map fun (i : Nat) => lo + (i : Int) * c
def rngN (lo hi c : Int) : Nat := (Builtin.Range.rangeSize lo hi c).toNat
theorem rintsS_get {lo c : Int} {n i : Nat} (h : i < n) : (rintsS lo c n)[i]? = some (lo + (i : Int) * c) := by
  unfold rintsS
  rw [List.getElem?_map, List.getElem?_range h]
  rfl
theorem rintsS_len (lo c : Int) (n : Nat) : (rintsS lo c n).length = n := by
  unfold rintsS
  rw [List.length_map, List.length_range]
theorem rintsS_mem {lo c x : Int} {n : Nat} (h : x ∈ rintsS lo c n) : ∃ i : Nat, i < n ∧ x = lo + i * c := by
  unfold rintsS at h
  obtain ⟨i, hi, rfl⟩ := List.mem_map.mp h
  exact ⟨i, List.mem_range.mp hi, rfl⟩
theorem rngN_up {lo hi c : Int} (hc : 0 < c) : (Builtin.Range.rangeSize lo hi c) = (rngN lo hi c : Int) := by
  unfold rngN Builtin.Range.rangeSize
  rw [if_pos hc]
  split
  · rename_i h
    have : 0 ≤ (hi - lo - 1) / c := Int.ediv_nonneg (by omega) (by omega)
    omega
  · rfl
theorem small_two {n : Int} (h0 : 0 ≤ n) (h1 : n < 2 ^ 62) : Builtin.Range.small 0 n 2 = true := by
  unfold Builtin.Range.small Builtin.Range.rangeSize
  simp only [Builtin.Range.rangeFitsLong, Bool.and_eq_true, Bool.or_eq_true, decide_eq_true_eq, beq_iff_eq, show (2 : Int) > 0 by decide, if_true]
  split <;> omega
theorem rngN_two {n : Nat} : rngN 0 (n : Int) 2 = (n + 1) / 2 := by
  unfold rngN Builtin.Range.rangeSize
  rw [if_pos (by decide)]
  split <;> omega
theorem rints_two {n : Nat} {x : Int} (h : x ∈ rintsS 0 2 (rngN 0 (n : Int) 2)) : 0 ≤ x ∧ x < n ∧ x % 2 = 0 := by
  obtain ⟨i, hi, rfl⟩ := rintsS_mem h
  rw [rngN_two] at hi
  omega
section
variable {X : Cx} {Γ : List B} {tg a b c : Expr} {pos p : Pos}
theorem it_range3 {i j k : Int} (hg : Gl X "range") (hm : X.mg "range" = none) (ha : ED X Γ a (.int i)) (hb : ED X Γ b (.int j)) (hc : ED X Γ c (.int k)) (h1 : 0 < k ∧ k < 1073741824) (h2 : Builtin.Range.small i j k = true)
    (hs : starEach [a, b, c] X.env = (false, eval a X.env) :: starEach [b, c] X.env := by exact starEach_ns rfl) (hs2 : starEach [b, c] X.env = (false, eval b X.env) :: starEach [c] X.env := by exact starEach_ns rfl) (hs3 : starEach [c] X.env = (false, eval c X.env) :: starEach [] X.env := by exact starEach_ns rfl) (hpl : (backTo pos (starEach [b, c] X.env)).any (·.1) = false := by exact plain_ok rfl) :
    IT X Γ tg (.Call (.Name "range" p) [a, b, c] [] pos) ((rintsS i k (rngN i j k)).map D.int) :=
  ⟨_, pi_range3 hg hm pa_w hs hpl, fun F σ G H s R q => (ea_cons ha (ea_cons hb (ea_cons hc ea_nil hs3) hs2) hs) F σ G H s _ fun vs G1 H1 g1 i1 => by
    cases i1 with
    | cons i1 i2 =>
      cases i2 with
      | cons i2 i3 =>
        cases i3 with
        | cons i3 i4 =>
          cases i1
          cases i2
          cases i3
          cases i4
          refine ⟨i, j, k, rngN i j k, rfl, ⟨by omega, by omega, h2, rngN_up h1.1⟩, ?_⟩
          have hl : ((rintsS i k (rngN i j k)).map D.int).length = rngN i j k := by rw [List.length_map, rintsS_len]
          refine q _ (fun _ => True) (fun t H v H' => H' = H ∧ t < rngN i j k ∧ v = .int (i + (t : Nat) * k)) G1 H1 g1 (by rw [hl]; exact walk_rangeC.mono (fun _ h => h) fun t H x H' hi _ y => ⟨y.1, hi, y.2⟩) (fun _ _ _ _ => trivial) fun t G2 H2 v H3 e1 e2 y => ?_
          obtain ⟨rfl, hi, rfl⟩ := y
          exact ⟨G2, .int (i + (t : Int) * k), by rw [List.getElem?_map, rintsS_get hi]; rfl, .refl e2, .int _⟩⟩
end
/-! ### tuples of any length -/
section
variable {X : Cx} {Γ : List B} {pos p apos : Pos} {a b : Expr} {τ : Type} {enc : τ → D} {xs : List τ}
theorem ed_tupM (hg : Gl X "tuple") (hm : X.mg "tuple" = none) (ha : EL X Γ a (xs.map enc)) (he : starEach [a] X.env = (false, eval a X.env) :: starEach [] X.env := by exact starEach_ns rfl) (hpl : (backTo pos (starEach [] X.env)).any (·.1) = false := by exact plain_ok rfl) : ED X Γ (.Call (.Name "tuple" p) [a] [] pos) (.tup (xs.map enc)) := ed_tupL hg hm ha he hpl
theorem ed_lenTM (hg : Gl X "len") (hm : X.mg "len" = none) (ha : ED X Γ a (.tup (xs.map enc))) (he : starEach [a] X.env = (false, eval a X.env) :: starEach [] X.env := by exact starEach_ns rfl) (hpl : (backTo pos (starEach [] X.env)).any (·.1) = false := by exact plain_ok rfl) : ED X Γ (.Call (.Name "len" p) [a] [] pos) (.int xs.length) := by
  have h := ed_lenT (p := p) (pos := pos) hg hm ha he hpl
  rw [List.length_map] at h
  exact h
theorem ed_joinT {l : List Nat} {ls : List (List Nat)} (ha : ED X Γ a (.str l)) (hb : ED X Γ b (.tup (ls.map D.str))) (hz : (ls.map (·.length)).sum + ls.length * l.length ≤ LMax)
    (hbase : attributeBase a "join" X.env (eval a X.env) = eval a X.env := by exact ab_ns rfl) (hline : (apos.endLine == pos.line) = true := by rfl)
    (hfew : ((backTo pos (starEach (b :: []) X.env)).all (fun x => !x.1) && (backToKw pos (keywordEach [] X.env)).all (fun x => x.1.isSome) && decide ((b :: ([] : List Expr)).length + ([] : List Keyword).length + (if ([] : List Keyword).isEmpty then 0 else 1) < 30)) = true := by exact few_ok rfl)
    (hs : starEach (b :: []) X.env = (false, eval b X.env) :: starEach [] X.env := by exact starEach_ns rfl) (hplain : (backTo pos (starEach [] X.env)).any (·.1) = false := by exact plain_ok rfl) :
    ED X Γ (.Call (.Attribute a "join" apos) [b] [] pos) (.str (joinS l ls)) :=
  ed_of (pe_bm PySem.F.plainAttrs_str PySem.F.slot_str_join PySem.F.type_str_join mt_join pe_w (pa_cons pe_w pa_nil hs) hbase hfew hline hs hplain) fun F σ G H s Q q => ha F σ G H s _ fun v G1 H1 g1 i1 => by
    have a := i1.strOk
    cases i1
    refine ⟨rfl, hb F σ G1 H1 (s.grow g1) _ fun w G2 H2 g2 i2 => ?_⟩
    cases i2 with
    | @tup p vs _ h2 i2 =>
      have b := i2.strOk
      have e := i2.strs
      subst e
      refine ⟨_, p, ls.map S, rfl, rfl, .inr ?_, ?_, ?_⟩
      · have h3 := Evl.ex_t g2.s h2
        rw [List.map_map]
        exact h3
      · rw [List.map_map, List.length_map, S_len]
        have : (ls.map ((fun x : Str => x.length) ∘ S)) = ls.map (·.length) := List.map_congr_left fun x _ => S_len x
        rw [this]
        exact Nat.le_trans hz (by unfold LMax; decide)
      · exact q _ G2 H2 (g1.trans g2) (.str _ (strOk_join a b hz))
end
end Sd

namespace Sd
open PySem PySem.Spec PyProof.Rows L2
/-! ### instances -/
def putD (f : Str) (v : D) : List (Str × D) → List (Str × D)
  | [] => [(f, v)]
  | (g, x) :: r => if g = f then (g, v) :: r else (g, x) :: putD f v r
section
variable {K : PySem.W.Frag} {G : Hp}
theorem IsFs.put {f : Str} {v : V} {d : D} (hv : Is K G v d) : ∀ {xs : List (Str × V)} {ds : List (Str × D)}, IsFs K G xs ds → IsFs K G (putF f v xs) (putD f d ds)
  | _, _, .nil => .cons hv .nil
  | (g, x) :: xs, (_, y) :: ds, .cons h t => by
    unfold putF putD
    by_cases q : g = f
    · rw [if_pos q, if_pos q]
      exact .cons hv t
    · rw [if_neg q, if_neg q]
      exact .cons h (IsFs.put hv t)
theorem IsFs.len : ∀ {xs : List (Str × V)} {ds : List (Str × D)}, IsFs K G xs ds → xs.length = ds.length
  | _, _, .nil => rfl
  | _, _, .cons _ t => congrArg (· + 1) t.len
theorem IsFs.get {f : Str} {d : D} : ∀ {xs : List (Str × V)} {ds : List (Str × D)}, IsFs K G xs ds → ds.lookup f = some d → ∃ v, xs.lookup f = some v ∧ Is K G v d
  | _, _, .nil, e => nomatch e
  | (g, x) :: xs, (_, y) :: ds, .cons h t, e => by
    unfold List.lookup at e ⊢
    cases q : f == g with
    | true =>
      rw [q] at e
      cases e
      exact ⟨x, rfl, h⟩
    | false =>
      rw [q] at e
      exact t.get e
theorem IsFs.no {f : Str} : ∀ {xs : List (Str × V)} {ds : List (Str × D)}, IsFs K G xs ds → ds.lookup f = none → xs.lookup f = none
  | _, _, .nil, _ => rfl
  | (g, x) :: xs, (_, y) :: ds, .cons h t, e => by
    unfold List.lookup at e ⊢
    cases q : f == g with
    | true =>
      rw [q] at e
      cases e
    | false =>
      rw [q] at e
      exact t.no e
end
def dl (H : Hp) (x : Addr) : Hp := fun b => if b = x then none else H b
theorem dl_ne {H : Hp} {x b : Addr} (h : b ≠ x) : dl H x b = H b := if_neg h
theorem dl_self {H : Hp} {x : Addr} : dl H x x = none := if_pos rfl
/-- a class by its name -/
structure ClsA (K : PySem.W.Frag) (n : Str) (C : Addr) : Prop where
  nm : PySem.W.nsIn K mainGlobals n = some (some (.ref C))
  cl : Cls K C
theorem ClsA.eq {K : PySem.W.Frag} {n : Str} {C C' : Addr} (h : ClsA K n C) (e : PySem.W.nsIn K mainGlobals n = some (some (.ref C'))) : C' = C := by
  rw [h.nm] at e
  cases e
  rfl
/-- the class has no attribute of that name -/
structure FldA (K : PySem.W.Frag) (n f : Str) : Prop where
  ex : ∃ C, ClsA K n C ∧ NoAttr K C f
section
variable {X : Cx} {Γ : List B} {e : Expr} {n f : Str} {ds : List (Str × D)} {d : D} {pos : Pos}
/-- e.f -/
theorem ed_fld (he : ED X Γ e (.ins n ds)) (hf : FldA X.K n f) (hl : ds.lookup f = some d) (hb : attributeBase e f X.env (eval e X.env) = eval e X.env := by exact ab_ns rfl) : ED X Γ (.Attribute e f pos) d :=
  ed_of (pe_fld pe_w hb) fun F σ G H s Q q => he F σ G H s _ fun v G1 H1 g1 i1 => by
    obtain ⟨C, hc, hn⟩ := hf.ex
    cases i1 with
    | @ins a C' dx _ xs _ h0 h1 h2 =>
      have e := hc.eq h0
      subst e
      obtain ⟨w, k1, k2⟩ := h2.get hl
      exact ⟨a, C', dx, xs, w, rfl, g1.s _ _ h1, hc.cl, hn, k1, q w G1 H1 g1 k2⟩
end

theorem noOwn_of {Γ : List B} (h : (Γ.all fun b => match b with | .own _ _ => false | _ => true) = true) (j : Nat) (o : OO) (pa : Option Addr) : Γ[j]? ≠ some (B.own o pa) := fun e => by
  have q := List.all_eq_true.mp h _ (List.mem_of_getElem? e)
  cases q
theorem d_ne {as : List D} {m : Nat} : ((B.un :: (as.map B.d ++ List.replicate m B.un)).all fun b => match b with | .own _ _ => false | _ => true) = true := by
  rw [List.all_cons, List.all_append, List.all_map]
  simp only [Bool.true_and, Bool.and_eq_true, List.all_eq_true]
  refine ⟨fun a _ => rfl, fun b hb => ?_⟩
  rw [List.eq_of_mem_replicate hb]
/-! ### __init__: self.f = e, in a row -/
def BI (X : Cx) (x dx C : Addr) (Γ : List B) (sts : List Stmt) (fs fs' : List (Str × D)) : Prop :=
  ∀ F σ G H (D : Ends) xs, Stt X.K F Γ σ G H → σ[0]? = some (some (.ref x)) → H x = some (.ins C dx xs) → G x = none → IsFs X.K G xs fs → (∀ (j : Nat) (o : OO) (pa : Option Addr), Γ[j]? ≠ some (B.own o pa)) →
    (∀ G' H' xs', Grow G (dl H x) G' (dl H' x) → H' x = some (.ins C dx xs') → G' x = none → IsFs X.K G' xs' fs' → D.nx σ H') → wS X sts D σ H
section
variable {X : Cx} {E : XK} {x dx C : Addr} {Γ : List B} {rest : List Stmt} {fs fs' : List (Str × D)} {d : D} {e : Expr} {pos py apos : Pos} {lv : Nat} {N : List Str} {sc : Scope} {y f : Str}
theorem grow_dl {G H : Hp} (s : Ex G H) (g : G x = none) : Grow G (dl H x) G (dl H x) := Grow.refl fun b o e => by
  rw [dl_ne (ne_of_none e g)]
  exact s b o e
theorem bi_nil : BI X x dx C Γ [] fs fs := fun F σ G H D xs s h0 hx gx hi hno k => w_nil (k G H xs (grow_dl s.sub gx) hx gx hi)
theorem bi_fld (hX : XOk lv N sc X) (hn : N[0]? = some y) (hl : Vis sc y) (hc : Cls X.K C) (hno : NoAttr X.K C f) (he : ED X Γ e d) (hz : fs.length < 1000) (hr : BI X x dx C Γ rest (putD f d fs) fs')
    (hs : swapsWith e (some (.Attribute (.Name y py) f apos)) pos.line X.env = pure false := by exact sw_ns rfl) (hd : (y == ("__debug__" : Str)) = false := by decide) (hcd : (y == ("__classdict__" : Str)) = false := by decide) :
    BI X x dx C Γ (.Assign [.Attribute (.Name y py) f apos] e pos :: rest) fs fs' := fun F σ G H D xs s h0 hx gx hi hno' k => by
  refine w_cons (ps_fld (pe_var (hX.nm hn) (hX.vs hl) hd hcd) pe_w hs) (he F σ G H s _ fun v G1 H1 g1 i1 => ⟨_, h0, ?_⟩)
  have hx1 := g1.h _ _ hx
  have gx1 : G1 x = none := g1.f x _ hx gx
  refine ⟨x, C, dx, xs, rfl, hx1, hc, hno, by rw [hi.len]; exact hz, ?_⟩
  have hi1 : IsFs X.K G1 xs fs := IsFs.mono g1.g fs xs hi
  have s1 := s.grow g1
  have nx : ∀ {p : Addr} {vs : List V}, H1 p = some (.lst vs) → p ≠ x := fun {p vs} h z => by
    rw [z, hx1] at h
    cases h
  have s2 : Stt X.K (dl F x) Γ σ G1 H1 := ⟨s1.len, s1.sub, s1.dat, fun i o pa h => let ⟨p, u, k1, k2, k3, k4, k5, k6⟩ := s1.own i o pa h; ⟨p, u, k1, k2, k3, by
      by_cases hp : p = x
      · rw [hp, dl_self]
      · rw [dl_ne hp]
        exact k4, k5, k6⟩, s1.sep, fun i xs h => let ⟨p, vs, k1, k2, k3, k4⟩ := s1.bor i xs h; ⟨p, vs, k1, k2, by rw [dl_ne (nx k2)]; exact k3, k4⟩, s1.exc, s1.tre.carry (fun _ _ e => ⟨e, rfl⟩) (fun _ _ _ _ _ a => a.map (Evl.Ex.refl _) fun b _ w k1 k2 k3 => ⟨k1, k2, by
      by_cases hp : b = x
      · rw [hp, dl_self]
      · rw [dl_ne hp]
        exact k3⟩) fun i x p qs e a => s1.tre.sep i x p qs e a⟩
  have gsub : Ex G1 (upd H1 x (.ins C dx (putF f v xs))) := fun b o e => by
    rw [upd_ne (ne_of_none e gx1)]
    exact g1.s b o e
  by_cases hown : ∃ (i : Nat) (o : OO) (pa : Option Addr), Γ[i]? = some (B.own o pa) ∧ σ[i]? = some (some (V.ref x))
  · obtain ⟨i, o, pa, k1, k2⟩ := hown
    exact absurd k1 (hno' i o pa)
  · refine hr (dl F x) σ G1 _ D _ ⟨s2.len, gsub, s2.dat, fun i o pa h => ?_, s2.sep, fun i xs h => let ⟨p, vs, k1, k2, k3, k4⟩ := s2.bor i xs h; ⟨p, vs, k1, by rw [upd_ne (nx k2)]; exact k2, k3, k4⟩, s2.exc, s2.tre.carry (fun _ _ e => ⟨e, rfl⟩) (fun j y p qs e a => a.updH (a.ne hx1 (fun _ e => nomatch e) fun _ e => nomatch e)) fun i x p qs e a => s2.tre.sep i x p qs e a⟩ h0 upd_same gx1 (IsFs.put i1 hi1) hno' fun G' H' xs' g' hx' gx' hi' => k G' H' xs' ?_ hx' gx' hi'
    · obtain ⟨p, u, k1, k2, k3, k4, k5, k6⟩ := s2.own i o pa h
      exact ⟨p, u, k1, by rw [upd_ne (fun z => hown ⟨i, o, pa, h, by rw [z] at k1; exact k1⟩)]; exact k2, k3, k4, k5, k6⟩
    · have e1 : Grow G (dl H x) G1 (dl H1 x) := by
        refine ⟨g1.g, fun b o e => ?_, fun b o e => ?_, fun b o e m => ?_⟩
        · by_cases hb : b = x
          · subst hb
            rw [dl_self] at e
            cases e
          · rw [dl_ne hb] at e ⊢
            exact g1.h b o e
        · rw [dl_ne (ne_of_none e gx1)]
          exact g1.s b o e
        · by_cases hb : b = x
          · subst hb
            exact gx1
          · rw [dl_ne hb] at e
            exact g1.f b o e m
      have e2 : dl (upd H1 x (.ins C dx (putF f v xs))) x = dl H1 x := by
        funext b
        by_cases hb : b = x
        · subst hb
          rw [dl_self, dl_self]
        · rw [dl_ne hb, dl_ne hb, upd_ne hb]
      rw [e2] at g'
      exact e1.trans g'
end
def spI (K : PySem.W.Frag) (n : Str) {A : Type} (enc : A → List D) (pre : A → Prop) (flds : A → List (Str × D)) : Sp := fun vs H Q E => ∃ (x dx C : Addr) (ws : List V) (a : A) (G : Hp), vs = .ref x :: ws ∧ ClsA K n C ∧ H x = some (.ins C dx []) ∧ G x = none ∧ Ex G H ∧ IsAll K G ws (enc a) ∧ pre a ∧
  ∀ G' H' xs, Grow G (dl H x) G' (dl H' x) → H' x = some (.ins C dx xs) → G' x = none → IsFs K G' xs (flds a) → Q .non H'
theorem Stt.cons {K : PySem.W.Frag} {F : Hp} {Γ : List B} {σ : L2.St} {G H : Hp} (s : Stt K F Γ σ G H) (y : Option V) : Stt K F (B.un :: Γ) (y :: σ) G H := by
  refine ⟨by simp [s.len], s.sub, fun i x e => ?_, fun i o pa e => ?_, fun i j p o o' pa pb e1 e2 e3 e4 => ?_, fun i xs e => ?_, fun i xa xd xf e => ?_, ?_⟩
  · cases i with
    | zero => cases e
    | succ i => exact s.dat i x (by simpa using e)
  · cases i with
    | zero => cases e
    | succ i => exact s.own i o pa (by simpa using e)
  · cases i with
    | zero => cases e1
    | succ i =>
      cases j with
      | zero => cases e2
      | succ j => exact congrArg (· + 1) (s.sep i j p o o' pa pb (by simpa using e1) (by simpa using e2) (by simpa using e3) (by simpa using e4))
  · cases i with
    | zero => cases e
    | succ i => exact s.bor i xs (by simpa using e)
  · cases i with
    | zero => cases e
    | succ i => exact s.exc i xa xd xf (by simpa using e)
  · refine ⟨fun i x e => ?_, fun i x p qs e a j o pa q e1 e2 => ?_, fun i j x y e1 e2 => ?_⟩
    · cases i with
      | zero => cases e
      | succ i =>
        obtain ⟨p, qs, a⟩ := s.tre.ex i x (by simpa using e)
        exact ⟨p, qs, by simpa using a.sl, a.hp, a.gp, a.fp, a.tw, a.nd⟩
    · cases i with
      | zero => cases e
      | succ i =>
        cases j with
        | zero => cases e1
        | succ j => exact s.tre.sep i x p qs (by simpa using e) ⟨by simpa using a.sl, a.hp, a.gp, a.fp, a.tw, a.nd⟩ j o pa q (by simpa using e1) (by simpa using e2)
    · cases i with
      | zero => cases e1
      | succ i =>
        cases j with
        | zero => cases e2
        | succ j => exact congrArg (· + 1) (s.tre.one i j x y (by simpa using e1) (by simpa using e2))
section
variable {P : Program} {w : World} {K : PySem.W.Frag} {mg : Str → Option Value} {base : Heap} {x qual n : Str} {st : Stmt} {f : Addr} {fd : FuncData} {N ps : List Str} {lv : Nat} {A : Type} {enc : A → List D} {pre : A → Prop} {flds : A → List (Str × D)}
theorem init_ok (F : Fun K x qual st f fd) {nm : Str} (S : FnScope (nm :: N) ps (defScope st)) (hlen : ∀ a, (enc a).length + 1 = ps.length)
    (hb : ∀ a, pre a → ∀ (X : Cx) (E : XK), X.prog = P → X.w = w → X.K = K → X.mg = mg → X.base = base → XOk lv (nm :: N) (defScope st) X → XCm X E → ∀ x dx C, ClsA K n C →
      BI X x dx C (B.un :: ((enc a).map B.d ++ List.replicate (N.length - (enc a).length) B.un)) (defBody st) [] (flds a)) : FnOk P w K mg base (L2.CX P w) (lv + 1) f fd ps (spI K n enc pre flds) := by
  refine F.okX S (fun vs H Q E h => ?_) (fun cdv Ar outer s H vs Q E hr h => ?_)
  · obtain ⟨x, dx, C, ws, a, G, rfl, _, _, _, _, h2, _⟩ := h
    rw [List.length_cons, h2.len, hlen]
  · obtain ⟨x, dx, C, ws, a, G, rfl, hC, hx, gx, h1, h2, h3, h4⟩ := h
    generalize hX : cxOf (L2.CX P w) P w K mg base (nm :: N) qual (defScope st) f cdv Ar outer s H E = X
    have ok : XOk lv (nm :: N) (defScope st) X := by
      subst hX
      exact ⟨⟨hr.dp, hr.un⟩, fun _ => rfl, rfl, rfl, S.nd, S.kind, rfl, rfl⟩
    have cm : XCm X E := by
      subst hX
      exact ⟨rfl, hr.hd, passes_of rfl, takes_of rfl rfl rfl rfl⟩
    have b := hb a h3 X E (by subst hX; rfl) (by subst hX; rfl) (by subst hX; rfl) (by subst hX; rfl) (by subst hX; rfl) ok cm x dx C hC
    have hK : X.K = K := by subst hX; rfl
    refine ⟨wS X (defBody st), pss_w, ?_⟩
    have e : L2.start (nm :: N) (V.ref x :: ws) = some (V.ref x) :: L2.start N ws := by
      unfold L2.start
      simp
    rw [e]
    refine b H _ G H _ [] ?_ rfl hx gx ?_ (noOwn_of d_ne) fun G' H' xs g hx' gx' hi => ?_
    · rw [hK]
      exact (stt_start h2 h1).cons _
    · rw [hK]
      exact .nil
    · rw [hK] at hi
      exact h4 G' H' xs g hx' gx' hi
end
/-- a class that is made by its __init__ -/
structure Mkr (P : Program) (w : World) (K : PySem.W.Frag) (mg : Str → Option Value) (base : Heap) (n : Str) (lv : Nat) (sp : Sp) : Prop where
  ex : ∃ (C f : Addr) (fd : FuncData) (ps : List Str), mg n = some (.ref C) ∧ ClsA K n C ∧ Mk K C f ∧ FnOk P w K mg base (L2.CX P w) lv f fd ps sp ∧ Binds K fd ps []
abbrev MkX (X : Cx) (n : Str) (lv : Nat) (sp : Sp) : Prop := Mkr X.prog X.w X.K X.mg X.base n lv sp
theorem FldA.no {K : PySem.W.Frag} {n f : Str} {C : Addr} (h : FldA K n f) (hC : ClsA K n C) : NoAttr K C f := by
  obtain ⟨C', h1, h2⟩ := h.ex
  have e := hC.eq h1.nm
  subst e
  exact h2
/-- a method -/
structure Mth (P : Program) (w : World) (K : PySem.W.Frag) (mg : Str → Option Value) (base : Heap) (n m : Str) (lv : Nat) (sp : Sp) : Prop where
  ex : ∃ (C f : Addr) (fd : FuncData) (ps : List Str), ClsA K n C ∧ Meth K C m f ∧ FnOk P w K mg base (L2.CX P w) lv f fd ps sp ∧ Binds K fd ps []
abbrev MethX (X : Cx) (n m : Str) (lv : Nat) (sp : Sp) : Prop := Mth X.prog X.w X.K X.mg X.base n m lv sp
section
variable {X : Cx} {Γ : List B} {pos p apos : Pos} {n m : Str} {lv : Nat} {A : Type} {enc : A → List D} {pre : A → Prop} {flds : A → List (Str × D)} {res : A → Res} {e o : Expr} {es : List Expr} {ds : List (Str × D)} {args : List D}
theorem ed_make (a : A) (hk : MkX X n lv (spI X.K n enc pre flds)) (hr : Room (lv + 1) X.A) (hg : Gl X n) (ha : EA X Γ (e :: es) (enc a)) (hp : pre a)
    (hdb : (n == ("__debug__" : Str)) = false := by decide) (he : starEach (e :: es) X.env = (false, eval e X.env) :: starEach es X.env := by exact starEach_ns rfl) (hpl : (backTo pos (starEach es X.env)).any (·.1) = false := by exact plain_ok rfl) : ED X Γ (.Call (.Name n p) (e :: es) [] pos) (.ins n (flds a)) := by
  obtain ⟨C, f, fd, ps, h1, hC, hM, hF, hB⟩ := hk.ex
  refine ed_of (pe_make (E := E0) hM hF hr hg h1 hB .nil passL pa_w hdb he hpl) fun F σ G H s Q q => ha F σ G H s _ fun vs G1 H1 g1 i1 x dx hx hdx hne => ?_
  rw [List.append_nil]
  have gx : G1 x = none := Evl.fresh_back g1.s hx
  have gdx : G1 dx = none := Evl.fresh_back g1.s hdx
  have ex1 : Ex G1 (upd (upd H1 dx (.own x)) x (.ins C dx [])) := fun b o eb => by
    rw [upd_ne (ne_of_none eb gx), upd_ne (ne_of_none eb gdx)]
    exact g1.s b o eb
  refine ⟨x, dx, C, vs, a, G1, rfl, hC, upd_same, gx, ex1, i1, hp, fun G' H' xs g hx' gx' hi => ⟨rfl, ?_⟩⟩
  have hH : Ex H1 H' := fun b o eb => by
    have hb : b ≠ x := ne_of_none eb hx
    have hb2 : b ≠ dx := ne_of_none eb hdx
    have z := g.h b o (by rw [dl_ne hb, upd_ne hb, upd_ne hb2]; exact eb)
    rw [dl_ne hb] at z
    exact z
  have gs : Ex G' H' := fun b o eb => by
    have hb : b ≠ x := ne_of_none eb gx'
    have z := g.s b o eb
    rw [dl_ne hb] at z
    exact z
  have g2 : Grow G1 H1 G' H' := ⟨g.g, hH, gs, fun b o eb mb => by
    have hb : b ≠ x := ne_of_none eb hx
    have hb2 : b ≠ dx := ne_of_none eb hdx
    exact g.f b o (by rw [dl_ne hb, upd_ne hb, upd_ne hb2]; exact eb) mb⟩
  exact q (.ref x) (upd G' x (.ins C dx xs)) H' (g1.trans (g2.frz hx hx' gx')) (.ins hC.nm upd_same (IsFs.mono (Evl.Ex.new gx') _ _ hi))
theorem mth_ns {o : Expr} {env : Env} (h : ncl o = true) : True := trivial
end
end Sd

namespace Sd
open PySem PySem.Spec PyProof.Rows L2
/-! ### methods of instances -/
section
variable {X : Cx} {Γ : List B} {pos p apos : Pos} {n m : Str} {lv : Nat} {A : Type} {enc : A → List D} {pre : A → Prop} {res : A → Res} {e o : Expr} {es : List Expr} {ds : List (Str × D)} {args : List D} {pl : Sem Bool}
theorem ev_meth0 {E : XK} {C : Addr} {sp : Sp} {z : Res} {E' : XK} (hC : ClsA X.K n C) (he : ED X Γ o (.ins n ds)) (hl : ds.lookup m = none)
    (hs : ∀ G H v, Ex G H → Is X.K G v (.ins n ds) → ∀ Q, PostR X.K H G E Q z → sp [v] H Q E) : EvR X.K E Γ (tMeth C m sp [] E (wE X o) tNil) z := fun F σ G H s Q q => he F σ G H s _ fun v G1 H1 g1 i1 => by
  have i0 := i1
  cases i1 with
  | @ins a C' dx _ xs _ h0 h1 h2 =>
    have e := hC.eq h0
    subst e
    exact ⟨a, dx, xs, rfl, g1.s _ _ h1, h2.no hl, hs G1 H1 _ g1.s i0 Q (PostR.grow g1 q)⟩
/-- o.m() -/
theorem er_meth0 {E : XK} (a : A) (tk : Takes X (fun cls d _ H => E cls d H)) (hk : MethX X n m lv (spF X.K enc pre res)) (hr : Room lv X.A) (he : ED X Γ o (.ins n ds)) (henc : enc a = [.ins n ds]) (hp : pre a) (hl : ds.lookup m = none)
    (ht : eval (.Call (.Attribute o m apos) [] [] pos) X.env = (do
      let ov ← eval o X.env
      standAt apos.atName
      let (f, first) ← holding [ov] (getMethod ov m pl)
      callWith pos f first (backTo pos (starEach [] X.env)) (backToKw pos (keywordEach [] X.env))) := by rfl) : ER X E Γ (.Call (.Attribute o m apos) [] [] pos) (res a) := by
  obtain ⟨C, f, fd, ps, hC, hM, hF, hB⟩ := hk.ex
  exact er_of (pe_meth0 (E := E) pe_w hC.cl hM hF hr hB .nil (passes_call tk fun _ _ _ _ h => h) ht) (ev_meth0 (E' := E) hC he hl fun G H v ex i Q q => ⟨a, G, ex, by rw [henc]; exact .cons i .nil, hp, q⟩)
theorem ed_meth0 (a : A) {z : D} (hk : MethX X n m lv (spF X.K enc pre res)) (hr : Room lv X.A) (he : ED X Γ o (.ins n ds)) (henc : enc a = [.ins n ds]) (hp : pre a) (hv : res a = .v z) (hl : ds.lookup m = none)
    (ht : eval (.Call (.Attribute o m apos) [] [] pos) X.env = (do
      let ov ← eval o X.env
      standAt apos.atName
      let (f, first) ← holding [ov] (getMethod ov m pl)
      callWith pos f first (backTo pos (starEach [] X.env)) (backToKw pos (keywordEach [] X.env))) := by rfl) : ED X Γ (.Call (.Attribute o m apos) [] [] pos) z := by
  obtain ⟨C, f, fd, ps, hC, hM, hF, hB⟩ := hk.ex
  exact ed_of (pe_meth0 (E := E0) pe_w hC.cl hM hF hr hB .nil passL ht) fun F σ G H s Q q => (ev_meth0 (E := E0) (E' := E0) (z := .v z) hC he hl fun G H v ex i Q q => ⟨a, G, ex, by rw [henc]; exact .cons i .nil, hp, by rw [hv]; exact q⟩) F σ G H s Q q
theorem eo_meth0 (a : A) {z : OO} (hk : MethX X n m lv (spF X.K enc pre res)) (hr : Room lv X.A) (he : ED X Γ o (.ins n ds)) (henc : enc a = [.ins n ds]) (hp : pre a) (hv : res a = .o z) (hl : ds.lookup m = none)
    (ht : eval (.Call (.Attribute o m apos) [] [] pos) X.env = (do
      let ov ← eval o X.env
      standAt apos.atName
      let (f, first) ← holding [ov] (getMethod ov m pl)
      callWith pos f first (backTo pos (starEach [] X.env)) (backToKw pos (keywordEach [] X.env))) := by rfl) : EO X Γ (.Call (.Attribute o m apos) [] [] pos) z := by
  obtain ⟨C, f, fd, ps, hC, hM, hF, hB⟩ := hk.ex
  exact eo_of (pe_meth0 (E := E0) pe_w hC.cl hM hF hr hB .nil passL ht) fun F σ G H s Q q => (ev_meth0 (E := E0) (E' := E0) (z := .o z) hC he hl fun G H v ex i Q q => ⟨a, G, ex, by rw [henc]; exact .cons i .nil, hp, by rw [hv]; exact q⟩) F σ G H s Q q
end

/-! ### an instance of a class without __init__ -/
structure Mk0 (K : PySem.W.Frag) (C : Addr) : Prop where
  makes : PySem.W.makesIn K C = true
  init : PySem.W.findIn K (.ref C) "__init__" = some (some (.builtin "object.__init__"))
  kp : PySem.W.keepIn K (.ref C) = true
def tBare (C : Addr) : TE := fun σ H Q => ∀ x dx, H x = none → H dx = none → dx ≠ x → Q (.ref x) (upd (upd H dx (.own x)) x (.ins C dx []))
section
variable {X : Cx} {C : Addr} {n : Str} {p pos : Pos} {Γ : List B}
theorem pe_bare (M : Mk0 X.K C) (hg : Gl X n) (hm : X.mg n = some (.ref C)) (hdb : (n == ("__debug__" : Str)) = false := by decide) : PE X (.Call (.Name n p) [] [] pos) (tBare C) := by
  refine ⟨fun pins s σ H Q I h => ?_⟩
  refine wpAny_Call_Name_kw (ld_glob I hg hm ?_ hdb)
  refine PySem.W.callWith_K0 I.kIn M.kp ?_
  have hq := h (s.heap.objs.size + 1) s.heap.objs.size (I.hok.fresh (Nat.le_succ _)) (I.hok.fresh (Nat.le_refl _)) (Nat.ne_of_lt (Nat.lt_succ_self _))
  have I2 := Inv.made (C := C) I
  refine wpAny_call (make_map0 I.kIn M.makes M.init (fun self => PySem.W.Looks.of_pure (PySem.W.oi_bind self)) ?_)
  obtain ⟨hh, g, d, t, os⟩ := s
  have Y := PySem.W.makes_of (M := model X.prog X.w) I.kIn M.makes
  have e2 : ((hh.push PySem.W.emptyDict).push (PySem.W.instObj C hh.objs.size)).get? (hh.objs.size + 1) = some (PySem.W.instObj C hh.objs.size) := by
    have := Heap.get?_push_size (hh.push PySem.W.emptyDict) (o := PySem.W.instObj C hh.objs.size) rfl
    rwa [Heap.size_push] at this
  have t1 : PySem.W.Looks (model X.prog X.w) ((hh.push PySem.W.emptyDict).push (PySem.W.instObj C hh.objs.size)) (typeOf (.ref (hh.objs.size + 1))) (.ref C) := (PySem.W.Looks.ld e2).andThen .now
  have t2 : PySem.W.Looks (model X.prog X.w) ((hh.push PySem.W.emptyDict).push (PySem.W.instObj C hh.objs.size)) (isInstance (.ref (hh.objs.size + 1)) (.type "object")) true := t1.andThen (Y.top.keeps fun b o e => Heap.get?_push_of_some _ (Heap.get?_push_of_some _ e))
  refine codeAny_call_builtin PySem.W.oi_plain PySem.W.entry_oi (@PySem.W.check_slot (model X.prog X.w) _ _ _ "object.__init__" "object" "__init__" (.ref (hh.objs.size + 1)) [] [] _ PySem.W.oi_kind PySem.W.oi_split t2 (PySem.W.oi_args (.ref (hh.objs.size + 1))) ?_)
  rw [PySem.W.oi_run]
  exact wpAny_pure (And.intro rfl ⟨V.ref (hh.objs.size + 1), _, I2, rfl, hq⟩)
theorem ed_bare (hC : ClsA X.K n C) (M : Mk0 X.K C) (hg : Gl X n) (hm : X.mg n = some (.ref C)) (hdb : (n == ("__debug__" : Str)) = false := by decide) : ED X Γ (.Call (.Name n p) [] [] pos) (.ins n []) :=
  ed_of (pe_bare M hg hm hdb) fun F σ G H s Q q x dx hx hdx hne => by
    have gx : G x = none := Evl.fresh_back s.sub hx
    have g1 : Grow G H G (upd H dx (.own x)) := Grow.lay s.sub hdx
    have g2 : Grow G H (upd G x (.ins C dx [])) (upd (upd H dx (.own x)) x (.ins C dx [])) := g1.trans (Grow.new g1.s (by rw [upd_ne (Ne.symm hne)]; exact hx))
    exact q _ _ _ g2 (.ins hC.nm upd_same .nil)
end

/-! ### isinstance with own classes -/
/-- what isinstance asks of an instance's class -/
structure InsT (K : PySem.W.Frag) (C : Addr) : Prop where
  ha : PySem.W.findIn K (.ref C) "__class__" = some (some (.builtin "object.__class__"))
  hn : PySem.W.specialIn K (.builtin "object.__class__") "__get__" = some (some (.builtin "getset_descriptor.__get__"))
  ht : PySem.W.takesIn K (.builtin "object.__class__") = some true
  hm : PySem.W.mroIn K C (.type "object") = some true
theorem kit_own {K : PySem.W.Frag} {t : Value} {C : Addr} {cd : ClassData} {b : Bool} (h1 : PySem.W.clsIn K C = some cd) (h2 : PySem.W.typeIn K (.ref C) = some (.type "type")) (h3 : PySem.W.subIn K t (.ref C) = some b) (hb : (t == .ref C) = true → b = true) : PySem.W.kitOne K t (.ref C) = some b := by
  unfold PySem.W.kitOne PySem.W.kitCls
  cases q : (t == Value.ref C) with
  | true =>
    rw [if_pos rfl, hb q]
  | false =>
    rw [if_neg Bool.false_ne_true]
    show (if ((PySem.W.clsIn K C).isSome && PySem.W.typeIn K (.ref C) == some (.type "type")) = true then PySem.W.subIn K t (.ref C) else none) = some b
    rw [h1, h2]
    exact h3
theorem kit_bty {K : PySem.W.Frag} {C : Addr} {T : String} {b : Bool} (h1 : PySem.W.kitMeta T = true) (h3 : PySem.W.subIn K (.ref C) (.type T) = some b) : PySem.W.kitOne K (.ref C) (.type T) = some b := by
  unfold PySem.W.kitOne PySem.W.kitCls
  have q : (Value.ref C == Value.type T) = false := by rfl
  rw [if_neg (by rw [q]; exact Bool.false_ne_true)]
  show (if PySem.W.kitMeta T = true then _ else _) = _
  rw [if_pos h1]
  exact h3
section
variable {X : Cx} {Γ : List B} {pos p p2 : Pos} {a b : Expr} {n c : Str} {ds : List (Str × D)} {x : D} {C D' : Addr} {r : Bool}
/-- isinstance(an instance, an own class) -/
theorem ed_isiC (hg : Gl X "isinstance") (hm : X.mg "isinstance" = none) (ha : ED X Γ a (.ins n ds)) (hC : ClsA X.K n C) (hT : InsT X.K C) (hgc : Gl X c) (hD : X.mg c = some (.ref D')) (hk : PySem.W.kitOne X.K (.ref C) (.ref D') = some r)
    (hdb : (c == ("__debug__" : Str)) = false := by decide) (he : starEach [a, .Name c p2] X.env = (false, eval a X.env) :: starEach [.Name c p2] X.env := by exact starEach_ns rfl) (he2 : starEach [.Name c p2] X.env = (false, eval (.Name c p2) X.env) :: starEach [] X.env := by exact starEach_ns rfl)
    (hpl : (backTo pos (starEach [.Name c p2] X.env)).any (·.1) = false := by exact plain_ok rfl) : ED X Γ (.Call (.Name "isinstance" p) [a, .Name c p2] [] pos) (.bl r) :=
  ed_of (pe_callB call_isi hg hm (by decide +kernel) (pa_cons pe_w (pa_cons (pe_glob (v := .ref D') hgc hD rfl hdb) pa_nil he2) he) (by decide) (by decide) he hpl) fun F σ G H s Q q => ha F σ G H s _ fun v G1 H1 g1 i1 => by
    cases i1 with
    | @ins y C' dx _ xs _ h0 h1 h2 =>
      have e := hC.eq h0
      subst e
      exact ⟨_, _, _, _, r, rfl, .own D', .base (.ins (g1.s _ _ h1) hC.cl hT.ha hT.hn hT.ht hT.hm), hk, q _ G1 H1 g1 (.bl r)⟩
/-- isinstance(data, an own class) -/
theorem ed_isiN {t : String} (hg : Gl X "isinstance") (hm : X.mg "isinstance" = none) (ha : ED X Γ a x) (ht : tyD x = some t) (hgc : Gl X c) (hD : X.mg c = some (.ref D')) (hk : PySem.W.kitOne X.K (.type t) (.ref D') = some r)
    (hdb : (c == ("__debug__" : Str)) = false := by decide) (he : starEach [a, .Name c p2] X.env = (false, eval a X.env) :: starEach [.Name c p2] X.env := by exact starEach_ns rfl) (he2 : starEach [.Name c p2] X.env = (false, eval (.Name c p2) X.env) :: starEach [] X.env := by exact starEach_ns rfl)
    (hpl : (backTo pos (starEach [.Name c p2] X.env)).any (·.1) = false := by exact plain_ok rfl) : ED X Γ (.Call (.Name "isinstance" p) [a, .Name c p2] [] pos) (.bl r) :=
  ed_of (pe_callB call_isi hg hm (by decide +kernel) (pa_cons pe_w (pa_cons (pe_glob (v := .ref D') hgc hD rfl hdb) pa_nil he2) he) (by decide) (by decide) he hpl) fun F σ G H s Q q => ha F σ G H s _ fun v G1 H1 g1 i1 => 
    ⟨_, _, _, _, r, rfl, .own D', tyx g1.s i1 ht, hk, q _ G1 H1 g1 (.bl r)⟩
/-- isinstance(an instance, a built-in type) -/
theorem ed_isiB {T : String} (hg : Gl X "isinstance") (hm : X.mg "isinstance" = none) (ha : ED X Γ a (.ins n ds)) (hb : ED X Γ b (.ty T)) (hC : ClsA X.K n C) (hT : InsT X.K C) (hk : PySem.W.kitOne X.K (.ref C) (.type T) = some r)
    (he : starEach [a, b] X.env = (false, eval a X.env) :: starEach [b] X.env := by exact starEach_ns rfl) (he2 : starEach [b] X.env = (false, eval b X.env) :: starEach [] X.env := by exact starEach_ns rfl)
    (hpl : (backTo pos (starEach [b] X.env)).any (·.1) = false := by exact plain_ok rfl) : ED X Γ (.Call (.Name "isinstance" p) [a, b] [] pos) (.bl r) :=
  ed_callB call_isi hg hm (by decide +kernel) (ea_cons ha (ea_cons hb ea_nil he2) he) (fun vs G H ex i Q q => by
    cases i with
    | cons i1 i2 =>
      cases i2 with
      | cons i2 i3 =>
        cases i2
        cases i3
        cases i1 with
        | @ins y C' dx _ xs _ h0 h1 h2 =>
          have e := hC.eq h0
          subst e
          exact ⟨_, _, _, _, r, rfl, .ty T, .base (.ins (ex _ _ h1) hC.cl hT.ha hT.hn hT.ht hT.hm), hk, q _ G H (.refl ex) (.bl r)⟩) (by decide) (by decide) he hpl
end
/-- the statements of a class -/
def clsBody : Stmt → List Stmt
  | .ClassDef _ _ _ b .. => b
  | _ => []
def clsAt (s : Stmt) (j : Nat) : Stmt := (clsBody s).getD j (.Pass ⟨0, 0, 0, 0⟩)
end Sd

namespace Sd
open PySem PySem.Spec PyProof.Rows L2
/-! ### a text in a list or tuple of texts -/
theorem inV_strs (x : List Nat) : ∀ ls : List (List Nat), inV (.str (S x)) (ls.map fun l => V.str (S l)) = decide (x ∈ ls)
  | [] => rfl
  | l :: ls => by
    have ih := inV_strs x ls
    unfold inV at ih ⊢
    rw [List.map_cons, List.any_cons, ih]
    by_cases h : l = x
    · subst h
      simp [eqV]
    · have h1 : ¬ S l = S x := fun z => h (S_inj.mp z)
      have h2 : ¬ x = l := fun z => h z.symm
      simp [eqV, h1, h2]
theorem inV_ints (x : Int) : ∀ ls : List Int, inV (.int x) (ls.map V.int) = decide (x ∈ ls)
  | [] => rfl
  | l :: ls => by
    have ih := inV_ints x ls
    unfold inV at ih ⊢
    rw [List.map_cons, List.any_cons, ih]
    by_cases h : l = x
    · subst h
      simp [eqV]
    · have h2 : ¬ x = l := fun z => h z.symm
      simp [eqV, h, h2]
theorem inV_bls (x : Bool) : ∀ ls : List Bool, inV (.bl x) (ls.map V.bl) = decide (x ∈ ls)
  | [] => rfl
  | l :: ls => by
    have ih := inV_bls x ls
    unfold inV at ih ⊢
    rw [List.map_cons, List.any_cons, ih]
    cases l <;> cases x <;> simp [eqV]
theorem flat_ints (ls : List Int) : (ls.map V.int).all flatV = true := by
  rw [List.all_map, List.all_eq_true]
  intro _ _
  rfl
theorem flat_bls (ls : List Bool) : (ls.map V.bl).all flatV = true := by
  rw [List.all_map, List.all_eq_true]
  intro _ _
  rfl
theorem flat_strs (ls : List (List Nat)) : (ls.map fun l => V.str (S l)).all flatV = true := by
  rw [List.all_map, List.all_eq_true]
  intro _ _
  rfl
section
variable {X : Cx}
theorem od_inT (x : List Nat) (ls : List (List Nat)) : OpD X (compareOp .In) (.str x) (.tup (ls.map D.str)) (.bl (decide (x ∈ ls))) := ⟨_, op_in_seq, fun v w G H e iv iw Q q => by
  cases iv
  cases iw with
  | tup h1 h2 =>
    have z := h2.strs
    subst z
    exact ⟨_, _, rfl, .inr (Evl.ex_t e h1), rfl, flat_strs ls, by rw [inV_strs]; exact q _ G H (.refl e) (.bl _)⟩⟩
theorem od_notInT (x : List Nat) (ls : List (List Nat)) : OpD X (compareOp .NotIn) (.str x) (.tup (ls.map D.str)) (.bl (!decide (x ∈ ls))) := ⟨_, op_notIn_seq, fun v w G H e iv iw Q q => by
  cases iv
  cases iw with
  | tup h1 h2 =>
    have z := h2.strs
    subst z
    exact ⟨_, _, rfl, .inr (Evl.ex_t e h1), rfl, flat_strs ls, by rw [inV_strs]; exact q _ G H (.refl e) (.bl _)⟩⟩
theorem od_inLs (x : List Nat) (ls : List (List Nat)) : OpD X (compareOp .In) (.str x) (.lst (ls.map D.str)) (.bl (decide (x ∈ ls))) := ⟨_, op_in_seq, fun v w G H e iv iw Q q => by
  cases iv
  cases iw with
  | lst h1 h2 =>
    have z := h2.strs
    subst z
    exact ⟨_, _, rfl, .inl (.inl (.inl (e _ _ h1))), rfl, flat_strs ls, by rw [inV_strs]; exact q _ G H (.refl e) (.bl _)⟩⟩
theorem od_notInLs (x : List Nat) (ls : List (List Nat)) : OpD X (compareOp .NotIn) (.str x) (.lst (ls.map D.str)) (.bl (!decide (x ∈ ls))) := ⟨_, op_notIn_seq, fun v w G H e iv iw Q q => by
  cases iv
  cases iw with
  | lst h1 h2 =>
    have z := h2.strs
    subst z
    exact ⟨_, _, rfl, .inl (.inl (.inl (e _ _ h1))), rfl, flat_strs ls, by rw [inV_strs]; exact q _ G H (.refl e) (.bl _)⟩⟩
theorem od_inLI (x : Int) (ls : List Int) : OpD X (compareOp .In) (D.int x) (.lst (ls.map D.int)) (.bl (decide (x ∈ ls))) := ⟨_, op_in_seq, fun v w G H e iv iw Q q => by
  cases iv
  cases iw with
  | lst h1 h2 =>
    have z := h2.ints
    subst z
    exact ⟨_, _, rfl, .inl (.inl (.inl (e _ _ h1))), rfl, flat_ints ls, by rw [inV_ints]; exact q _ G H (.refl e) (.bl _)⟩⟩
theorem od_notInLI (x : Int) (ls : List Int) : OpD X (compareOp .NotIn) (D.int x) (.lst (ls.map D.int)) (.bl (!decide (x ∈ ls))) := ⟨_, op_notIn_seq, fun v w G H e iv iw Q q => by
  cases iv
  cases iw with
  | lst h1 h2 =>
    have z := h2.ints
    subst z
    exact ⟨_, _, rfl, .inl (.inl (.inl (e _ _ h1))), rfl, flat_ints ls, by rw [inV_ints]; exact q _ G H (.refl e) (.bl _)⟩⟩
theorem od_inLB (x : Bool) (ls : List Bool) : OpD X (compareOp .In) (D.bl x) (.lst (ls.map D.bl)) (.bl (decide (x ∈ ls))) := ⟨_, op_in_seq, fun v w G H e iv iw Q q => by
  cases iv
  cases iw with
  | lst h1 h2 =>
    have z := h2.bls
    subst z
    exact ⟨_, _, rfl, .inl (.inl (.inl (e _ _ h1))), rfl, flat_bls ls, by rw [inV_bls]; exact q _ G H (.refl e) (.bl _)⟩⟩
theorem od_notInLB (x : Bool) (ls : List Bool) : OpD X (compareOp .NotIn) (D.bl x) (.lst (ls.map D.bl)) (.bl (!decide (x ∈ ls))) := ⟨_, op_notIn_seq, fun v w G H e iv iw Q q => by
  cases iv
  cases iw with
  | lst h1 h2 =>
    have z := h2.bls
    subst z
    exact ⟨_, _, rfl, .inl (.inl (.inl (e _ _ h1))), rfl, flat_bls ls, by rw [inV_bls]; exact q _ G H (.refl e) (.bl _)⟩⟩
end
def BM (k : Nat) : Int := 2 ^ k
theorem od_andK {X : Cx} (k : Nat) (i : Int) : OpD X (binaryOp .BitAnd) (.int i) (.int ((2 : Int) ^ k - 1)) (.int (i % BM k)) := od_andM i _ k rfl
/-! ### facts of classes, told together -/
structure IsA (K : PySem.W.Frag) (mg : Str → Option Value) (n c : Str) (b : Bool) : Prop where
  ex : ∃ C D', ClsA K n C ∧ InsT K C ∧ mg c = some (.ref D') ∧ PySem.W.kitOne K (.ref C) (.ref D') = some b
structure Bare (K : PySem.W.Frag) (mg : Str → Option Value) (n : Str) : Prop where
  ex : ∃ C, ClsA K n C ∧ Mk0 K C ∧ mg n = some (.ref C)
section
variable {X : Cx} {Γ : List B} {pos p p2 : Pos} {a : Expr} {n c : Str} {ds : List (Str × D)} {r : Bool}
theorem ed_isA (hg : Gl X "isinstance") (hm : X.mg "isinstance" = none) (ha : ED X Γ a (.ins n ds)) (hgc : Gl X c) (hk : IsA X.K X.mg n c r)
    (hdb : (c == ("__debug__" : Str)) = false := by decide) (he : starEach [a, .Name c p2] X.env = (false, eval a X.env) :: starEach [.Name c p2] X.env := by exact starEach_ns rfl) : ED X Γ (.Call (.Name "isinstance" p) [a, .Name c p2] [] pos) (.bl r) := by
  obtain ⟨C, D', h1, h2, h3, h4⟩ := hk.ex
  exact ed_isiC hg hm ha h1 h2 hgc h3 h4 hdb he
theorem ed_bareX (hk : Bare X.K X.mg n) (hg : Gl X n) (hdb : (n == ("__debug__" : Str)) = false := by decide) : ED X Γ (.Call (.Name n p) [] [] pos) (.ins n []) := by
  obtain ⟨C, h1, h2, h3⟩ := hk.ex
  exact ed_bare h1 h2 hg h3 hdb
end
/-! ### xs.clear(), (..).append(e) -/
section
variable {X : Cx} {E : XK} {Γ : List B} {S T : Type} {Γs : S → List B} {Γb : T → List B} {rest : List Stmt} {pos : Pos} {lv : Nat} {N : List Str} {sc : Scope} {y : Str} {py : Pos} {e o : Expr} {apos cpos : Pos}
theorem b_clear {τ : Type} {pa : Option Addr} (i : Nat) (enc : τ → D) {xs : List τ} {k : Ctl S T} (hX : XOk lv N sc X) (hn : N[i]? = some y) (hl : Vis sc y) (h : Γ[i]? = some (B.own (.lst (xs.map enc)) pa)) (hz : xs.length ≤ sizeLine)
    (hr : BK X E (Γ.set i (.own (.lst (([] : List τ).map enc)) pa)) rest Γs Γb k)
    (hs : swapsWith (.Call (.Attribute (.Name y py) "clear" apos) [] [] cpos) none pos.line X.env = pure false := by exact sw_ns rfl)
    (hbase : attributeBase (.Name y py) "clear" X.env (eval (.Name y py) X.env) = eval (.Name y py) X.env := by exact ab_ns rfl) (hline : (apos.endLine == cpos.line) = true := by rfl) (hd : (y == ("__debug__" : Str)) = false := by decide) (hcd : (y == ("__classdict__" : Str)) = false := by decide) :
    BK X E Γ (.Expr (.Call (.Attribute (.Name y py) "clear" apos) [] [] cpos) pos :: rest) Γs Γb k := fun F G0 σ G H D s gr post => by
  obtain ⟨p, u, h1, h2, h3, h4, h5, _⟩ := s.own i _ _ h
  obtain ⟨vs, rfl, iv⟩ := h5.lst
  refine w_cons (ps_expr (pe_bm0 PySem.F.plainAttrs_list PySem.F.slot_list_clear PySem.F.type_list_clear mt_clear (pe_var (hX.nm hn) (hX.vs hl) hd hcd) hbase hline) hs) ?_
  refine ⟨_, h1, .inl ⟨rfl, vs, .inl (.inl h2)⟩, ?_⟩
  have s2 := s.mut (u := .lst []) (o' := .lst (([] : List τ).map enc)) h h1 (show IsAll _ _ _ _ from .nil)
  refine ⟨p, vs, rfl, rfl, h2, ?_⟩
  refine hr F G0 σ G _ D s2 ⟨gr.g, fun b o eo => ?_, s2.sub, gr.f⟩ post
  rw [upd_ne (ne_of_none eo h4)]
  exact gr.h b o eo
/-- o.append(e), o a new list -/
theorem b_appX {ds : List D} {x : D} {k : Ctl S T} (hX : XOk lv N sc X) (ho : EO X Γ o (.lst ds)) (he : ED X Γ e x) (hz : ds.length < sizeLine) (hr : BK X E Γ rest Γs Γb k)
    (hbase : attributeBase o "append" X.env (eval o X.env) = eval o X.env) (hs : swapsWith (.Call (.Attribute o "append" apos) [e] [] cpos) none pos.line X.env = pure false := by exact sw_ns rfl) (hline : (apos.endLine == cpos.line) = true := by rfl)
    (hfew : ((backTo cpos (starEach (e :: []) X.env)).all (fun x => !x.1) && (backToKw cpos (keywordEach [] X.env)).all (fun x => x.1.isSome) && decide ((e :: ([] : List Expr)).length + ([] : List Keyword).length + (if ([] : List Keyword).isEmpty then 0 else 1) < 30)) = true := by exact few_ok rfl)
    (hst : starEach (e :: []) X.env = (false, eval e X.env) :: starEach [] X.env := by exact starEach_ns rfl) (hplain : (backTo cpos (starEach [] X.env)).any (·.1) = false := by exact plain_ok rfl) :
    BK X E Γ (.Expr (.Call (.Attribute o "append" apos) [e] [] cpos) pos :: rest) Γs Γb k := fun F G0 σ G H D s gr post => by
  refine w_cons (ps_expr (pe_bm PySem.F.plainAttrs_list PySem.F.slot_list_append PySem.F.type_list_append mt_append pe_w (pa_cons pe_w pa_nil hst) hbase hfew hline hst hplain) hs) ?_
  refine ho F σ G H s _ fun p u G1 H1 g1 hp n hn hi => ?_
  obtain ⟨vs, rfl, iv⟩ := OwnIs.lst hi
  refine ⟨.inl ⟨rfl, vs, .inl (.inl hp)⟩, he F σ G1 H1 (s.grow g1) _ fun v G2 H2 g2 i2 => ⟨p, vs, v, rfl, rfl, g2.h _ _ hp, by rw [iv.len]; exact hz, ?_⟩⟩
  have g := g1.trans g2
  have n2 : G2 p = none := g2.f p _ hp n
  have g3 : Grow G H G2 (upd H2 p (.lst (vs ++ [v]))) := ⟨g.g, fun b o eo => by rw [upd_ne (ne_of_none eo hn)]; exact g.h b o eo, fun b o eo => by rw [upd_ne (ne_of_none eo n2)]; exact g.s b o eo, g.f⟩
  exact hr F G0 σ G2 _ D (s.grow g3) (gr.trans g3) (post.up g3.g)
end
end Sd

namespace Sd
open PySem PySem.Spec PyProof.Rows L2
/-! ### arguments that are lists of the caller's own, read only -/
inductive AK where
  | d (x : D) | l (xs : List D)
inductive IsAs (K : PySem.W.Frag) (G H : Hp) : List V → List AK → Prop
  | nil : IsAs K G H [] []
  | d {v : V} {x : D} {vs : List V} {as : List AK} : Is K G v x → IsAs K G H vs as → IsAs K G H (v :: vs) (.d x :: as)
  | l {p : Addr} {us vs : List V} {xs : List D} {as : List AK} : H p = some (.lst us) → IsAll K G us xs → IsAs K G H vs as → IsAs K G H (.ref p :: vs) (.l xs :: as)
theorem IsAs.len {K : PySem.W.Frag} {G H : Hp} : ∀ {vs : List V} {as : List AK}, IsAs K G H vs as → vs.length = as.length
  | _, _, .nil => rfl
  | _, _, .d _ t => congrArg (· + 1) t.len
  | _, _, .l _ _ t => congrArg (· + 1) t.len
def EvA2 (K : PySem.W.Frag) (Γ : List B) (ta : TA) (as : List AK) : Prop :=
  ∀ F σ G H, Stt K F Γ σ G H → ∀ Q : List V → Hp → Prop, (∀ vs G' H', Grow G H G' H' → IsAs K G' H' vs as → Q vs H') → ta σ H Q
abbrev EA2 (X : Cx) (Γ : List B) (es : List Expr) (as : List AK) : Prop := EvA2 X.K Γ (wA X es) as
section
variable {X : Cx} {Γ : List B} {e : Expr} {es : List Expr} {x : D} {xs : List D} {as : List AK}
theorem ea2_of {t : TA} (h : PA X es t) (k : EvA2 X.K Γ t as) : EA2 X Γ es as := fun F σ G H s Q q => ⟨fun pos pins sh I => h.run pos pins sh σ H Q I (k F σ G H s Q q)⟩
theorem ea2_nil : EA2 X Γ [] [] := ea2_of pa_nil fun F σ G H s Q q => q [] G H (.refl s.sub) .nil
theorem ea2_d (he : ED X Γ e x) (hs : EA2 X Γ es as) (hst : starEach (e :: es) X.env = (false, eval e X.env) :: starEach es X.env := by exact starEach_ns rfl) : EA2 X Γ (e :: es) (.d x :: as) :=
  ea2_of (pa_cons pe_w pa_w hst) fun F σ G H s Q q => he F σ G H s _ fun v G1 H1 g1 i1 => hs F σ G1 H1 (s.grow g1) _ fun vs G2 H2 g2 i2 => q (v :: vs) G2 H2 (g1.trans g2) (.d (i1.up g2.g) i2)
theorem ea2_l (he : EL X Γ e xs) (hs : EA2 X Γ es as) (hst : starEach (e :: es) X.env = (false, eval e X.env) :: starEach es X.env := by exact starEach_ns rfl) : EA2 X Γ (e :: es) (.l xs :: as) :=
  ea2_of (pa_cons pe_w pa_w hst) fun F σ G H s Q q => he F σ G H s _ fun p us G1 H1 g1 h1 i1 => hs F σ G1 H1 (s.grow g1) _ fun vs G2 H2 g2 i2 => q (.ref p :: vs) G2 H2 (g1.trans g2) (.l (g2.h _ _ h1) (i1.up g2.g) i2)
end
def bOf : AK → B
  | .d x => .d x
  | .l xs => .bor xs
theorem stt_start2 {K : PySem.W.Frag} {G H : Hp} (ex : Ex G H) : ∀ {vs : List V} {as : List AK} (n : Nat), IsAs K G H vs as → Stt K H (as.map bOf ++ List.replicate n B.un) (vs.map some ++ List.replicate n none) G H := by
  intro vs as n h
  have get : ∀ {vs : List V} {as : List AK}, IsAs K G H vs as → ∀ {i : Nat} {b : B}, (as.map bOf ++ List.replicate n B.un)[i]? = some b → b ≠ .un →
      (∃ x v, b = .d x ∧ (vs.map some ++ List.replicate n none)[i]? = some (some v) ∧ Is K G v x) ∨ (∃ xs p us, b = .bor xs ∧ (vs.map some ++ List.replicate n none)[i]? = some (some (.ref p)) ∧ H p = some (.lst us) ∧ IsAll K G us xs) := by
    intro vs as h
    induction h with
    | nil =>
      intro i b e nb
      simp only [List.map_nil, List.nil_append, List.getElem?_replicate] at e
      split at e
      · exact absurd (Option.some.inj e).symm nb
      · cases e
    | @d v x vs as h1 h2 ih =>
      intro i b e nb
      cases i with
      | zero =>
        have e' : b = .d x := by simpa [bOf] using e.symm
        exact .inl ⟨x, v, e', rfl, h1⟩
      | succ i => exact ih (by simpa using e) nb
    | @l p us vs xs as h1 h2 h3 ih =>
      intro i b e nb
      cases i with
      | zero =>
        have e' : b = .bor xs := by simpa [bOf] using e.symm
        exact .inr ⟨xs, p, us, e', rfl, h1, h2⟩
      | succ i => exact ih (by simpa using e) nb
  refine ⟨by simp [h.len], ex, fun i x e => ?_, fun i o pa e => ?_, fun i j p o o' pa pb e _ _ _ => ?_, fun i xs e => ?_, fun i xa xd xf e => ?_, .noT fun i x e => ?_⟩
  case refine_6 => rcases get h e (by simp) with ⟨y, v, e1, _⟩ | ⟨ys, p, us, e1, _⟩ <;> cases e1
  · rcases get h e (by simp) with ⟨y, v, e1, e2, e3⟩ | ⟨ys, p, us, e1, _⟩
    · cases e1
      exact ⟨v, e2, e3⟩
    · cases e1
  · rcases get h e (by simp) with ⟨y, v, e1, _⟩ | ⟨ys, p, us, e1, _⟩ <;> cases e1
  · rcases get h e (by simp) with ⟨y, v, e1, _⟩ | ⟨ys, p, us, e1, _⟩ <;> cases e1
  · rcases get h e (by simp) with ⟨y, v, e1, _⟩ | ⟨ys, p, us, e1, e2, e3, e4⟩
    · cases e1
    · cases e1
      exact ⟨p, us, e2, e3, e3, e4⟩
  · rcases get h e (by simp) with ⟨y, v, e1, _⟩ | ⟨ys, p, us, e1, _⟩ <;> cases e1
theorem stt_startN {K : PySem.W.Frag} {G H : Hp} {N : List Str} {vs : List V} {as : List AK} (h : IsAs K G H vs as) (ex : Ex G H) : Stt K H (as.map bOf ++ List.replicate (N.length - as.length) B.un) (L2.start N vs) G H := by
  have q := stt_start2 ex (N.length - as.length) h
  unfold L2.start
  rw [h.len]
  exact q
def spG (K : PySem.W.Frag) {A : Type} (enc : A → List AK) (pre : A → Prop) (res : A → Res) : Sp := fun vs H Q E => ∃ (a : A) (G : Hp), Ex G H ∧ IsAs K G H vs (enc a) ∧ pre a ∧ PostR K H G E Q (res a)
def spJ (K : PySem.W.Frag) (n : Str) {A : Type} (enc : A → List AK) (pre : A → Prop) (flds : A → List (Str × D)) : Sp := fun vs H Q E => ∃ (x dx C : Addr) (ws : List V) (a : A) (G : Hp), vs = .ref x :: ws ∧ ClsA K n C ∧ H x = some (.ins C dx []) ∧ G x = none ∧ Ex G H ∧ IsAs K G H ws (enc a) ∧ pre a ∧
  ∀ G' H' xs, Grow G (dl H x) G' (dl H' x) → H' x = some (.ins C dx xs) → G' x = none → IsFs K G' xs (flds a) → Q .non H'
theorem bor_ne {as : List AK} {m : Nat} : ((B.un :: (as.map bOf ++ List.replicate m B.un)).all fun b => match b with | .own _ _ => false | _ => true) = true := by
  rw [List.all_cons, List.all_append, List.all_map]
  simp only [Bool.true_and, Bool.and_eq_true, List.all_eq_true]
  refine ⟨fun a _ => ?_, fun b hb => ?_⟩
  · cases a <;> rfl
  · rw [List.eq_of_mem_replicate hb]
section
variable {P : Program} {w : World} {K : PySem.W.Frag} {mg : Str → Option Value} {base : Heap} {x qual n : Str} {st : Stmt} {f : Addr} {fd : FuncData} {N ps : List Str} {lv : Nat} {A : Type} {enc : A → List AK} {pre : A → Prop} {res : A → Res} {flds : A → List (Str × D)}
theorem def_okG (F : Fun K x qual st f fd) (S : FnScope N ps (defScope st)) (hlen : ∀ a, (enc a).length = ps.length)
    (hb : ∀ a, pre a → ∀ (X : Cx) (E : XK), X.prog = P → X.w = w → X.K = K → X.mg = mg → X.base = base → XOk lv N (defScope st) X → XCm X E →
      BK X E ((enc a).map bOf ++ List.replicate (N.length - (enc a).length) B.un) (defBody st) (fun s : Unit => List.replicate N.length B.un) (fun s : Empty => nomatch s) (Ctl.ret (res a))) : FnOk P w K mg base (L2.CX P w) (lv + 1) f fd ps (spG K enc pre res) := by
  refine F.okX S (fun vs H Q E h => ?_) (fun cdv Ar outer s H vs Q E hr h => ?_)
  · obtain ⟨a, G, _, h2, _⟩ := h
    rw [h2.len, hlen]
  · obtain ⟨a, G, h1, h2, h3, h4⟩ := h
    generalize hX : cxOf (L2.CX P w) P w K mg base N qual (defScope st) f cdv Ar outer s H E = X
    have ok : XOk lv N (defScope st) X := by
      subst hX
      exact ⟨⟨hr.dp, hr.un⟩, fun _ => rfl, rfl, rfl, S.nd, S.kind, rfl, rfl⟩
    have cm : XCm X E := by
      subst hX
      exact ⟨rfl, hr.hd, passes_of rfl, takes_of rfl rfl rfl rfl⟩
    have b := hb a h3 X E (by subst hX; rfl) (by subst hX; rfl) (by subst hX; rfl) (by subst hX; rfl) (by subst hX; rfl) ok cm
    have hK : X.K = K := by subst hX; rfl
    refine ⟨wS X (defBody st), pss_w, ?_⟩
    refine b H G _ G H _ ?_ (Grow.refl h1) ?_
    · rw [hK]
      exact stt_startN h2 h1
    · rw [hK]
      exact h4
theorem init_okJ (F : Fun K x qual st f fd) {nm : Str} (S : FnScope (nm :: N) ps (defScope st)) (hlen : ∀ a, (enc a).length + 1 = ps.length)
    (hb : ∀ a, pre a → ∀ (X : Cx) (E : XK), X.prog = P → X.w = w → X.K = K → X.mg = mg → X.base = base → XOk lv (nm :: N) (defScope st) X → XCm X E → ∀ x dx C, ClsA K n C →
      BI X x dx C (B.un :: ((enc a).map bOf ++ List.replicate (N.length - (enc a).length) B.un)) (defBody st) [] (flds a)) : FnOk P w K mg base (L2.CX P w) (lv + 1) f fd ps (spJ K n enc pre flds) := by
  refine F.okX S (fun vs H Q E h => ?_) (fun cdv Ar outer s H vs Q E hr h => ?_)
  · obtain ⟨x, dx, C, ws, a, G, rfl, _, _, _, _, h2, _⟩ := h
    rw [List.length_cons, h2.len, hlen]
  · obtain ⟨x, dx, C, ws, a, G, rfl, hC, hx, gx, h1, h2, h3, h4⟩ := h
    generalize hX : cxOf (L2.CX P w) P w K mg base (nm :: N) qual (defScope st) f cdv Ar outer s H E = X
    have ok : XOk lv (nm :: N) (defScope st) X := by
      subst hX
      exact ⟨⟨hr.dp, hr.un⟩, fun _ => rfl, rfl, rfl, S.nd, S.kind, rfl, rfl⟩
    have cm : XCm X E := by
      subst hX
      exact ⟨rfl, hr.hd, passes_of rfl, takes_of rfl rfl rfl rfl⟩
    have b := hb a h3 X E (by subst hX; rfl) (by subst hX; rfl) (by subst hX; rfl) (by subst hX; rfl) (by subst hX; rfl) ok cm x dx C hC
    have hK : X.K = K := by subst hX; rfl
    refine ⟨wS X (defBody st), pss_w, ?_⟩
    have e : L2.start (nm :: N) (V.ref x :: ws) = some (V.ref x) :: L2.start N ws := by
      unfold L2.start
      simp
    rw [e]
    refine b H _ G H _ [] ?_ rfl hx gx ?_ (noOwn_of bor_ne) fun G' H' xs g hx' gx' hi => ?_
    · rw [hK]
      exact (stt_startN h2 h1).cons _
    · rw [hK]
      exact .nil
    · rw [hK] at hi
      exact h4 G' H' xs g hx' gx' hi
end
section
variable {X : Cx} {E : XK} {Γ : List B} {pos p : Pos} {x n : Str} {lv : Nat} {A : Type} {enc : A → List AK} {pre : A → Prop} {res : A → Res} {flds : A → List (Str × D)} {e : Expr} {es : List Expr}
/-- a borrowed list, read -/
theorem el_bor (i : Nat) {ds : List D} (hN : X.N[i]? = some x) (hv : Vis X.env.scope x) (h : Γ[i]? = some (B.bor ds)) (hd : (x == ("__debug__" : Str)) = false := by decide) (hcd : (x == ("__classdict__" : Str)) = false := by decide) : EL X Γ (.Name x pos) ds :=
  el_of (pe_var hN hv hd hcd) fun F σ G H s Q q => by
    obtain ⟨p, vs, h1, h2, h3, h4⟩ := s.bor i _ h
    exact ⟨_, h1, q p vs G H (.refl s.sub) h2 h4⟩
theorem er_callG (a : A) (tk : Takes X (fun cls d _ H => E cls d H)) (hk : KnX X x lv (spG X.K enc pre res)) (hr : Room lv X.A) (hg : Gl X x) (ha : EA2 X Γ (e :: es) (enc a)) (hp : pre a)
    (hdb : (x == ("__debug__" : Str)) = false := by decide) (he : starEach (e :: es) X.env = (false, eval e X.env) :: starEach es X.env := by exact starEach_ns rfl) (hpl : (backTo pos (starEach es X.env)).any (·.1) = false := by exact plain_ok rfl) : ER X E Γ (.Call (.Name x p) (e :: es) [] pos) (res a) := by
  obtain ⟨f, fd, ps, h1, h2, h3, h4⟩ := hk.ex
  refine er_of (pe_call (E := E) h1 hr hg h2 h3 h4 .nil (passes_call tk fun _ _ _ _ h => h) pa_w hdb he hpl) fun F σ G H s Q q => ha F σ G H s _ fun vs G1 H1 g1 i1 => ?_
  rw [List.append_nil]
  exact ⟨a, G1, g1.s, i1, hp, PostR.grow g1 q⟩
theorem ed_callG (a : A) {z : D} (hk : KnX X x lv (spG X.K enc pre res)) (hr : Room lv X.A) (hg : Gl X x) (ha : EA2 X Γ (e :: es) (enc a)) (hp : pre a) (hv : res a = .v z)
    (hdb : (x == ("__debug__" : Str)) = false := by decide) (he : starEach (e :: es) X.env = (false, eval e X.env) :: starEach es X.env := by exact starEach_ns rfl) (hpl : (backTo pos (starEach es X.env)).any (·.1) = false := by exact plain_ok rfl) : ED X Γ (.Call (.Name x p) (e :: es) [] pos) z := by
  obtain ⟨f, fd, ps, h1, h2, h3, h4⟩ := hk.ex
  refine ed_of (pe_call h1 hr hg h2 h3 h4 .nil passL pa_w hdb he hpl) fun F σ G H s Q q => ha F σ G H s _ fun vs G1 H1 g1 i1 => ?_
  rw [List.append_nil]
  refine ⟨a, G1, g1.s, i1, hp, ?_⟩
  rw [hv]
  exact fun v G2 H2 g2 i2 => q v G2 H2 (g1.trans g2) i2
theorem eo_callG (a : A) {z : OO} (hk : KnX X x lv (spG X.K enc pre res)) (hr : Room lv X.A) (hg : Gl X x) (ha : EA2 X Γ (e :: es) (enc a)) (hp : pre a) (hv : res a = .o z)
    (hdb : (x == ("__debug__" : Str)) = false := by decide) (he : starEach (e :: es) X.env = (false, eval e X.env) :: starEach es X.env := by exact starEach_ns rfl) (hpl : (backTo pos (starEach es X.env)).any (·.1) = false := by exact plain_ok rfl) : EO X Γ (.Call (.Name x p) (e :: es) [] pos) z := by
  obtain ⟨f, fd, ps, h1, h2, h3, h4⟩ := hk.ex
  refine eo_of (pe_call h1 hr hg h2 h3 h4 .nil passL pa_w hdb he hpl) fun F σ G H s Q q => ha F σ G H s _ fun vs G1 H1 g1 i1 => ?_
  rw [List.append_nil]
  refine ⟨a, G1, g1.s, i1, hp, ?_⟩
  rw [hv]
  exact fun p u G2 H2 g2 hp n hn ho => q p u G2 H2 (g1.trans g2) hp n (Evl.fresh_back g1.h hn) ho
theorem ed_makeJ (a : A) (hk : MkX X n lv (spJ X.K n enc pre flds)) (hr : Room (lv + 1) X.A) (hg : Gl X n) (ha : EA2 X Γ (e :: es) (enc a)) (hp : pre a)
    (hdb : (n == ("__debug__" : Str)) = false := by decide) (he : starEach (e :: es) X.env = (false, eval e X.env) :: starEach es X.env := by exact starEach_ns rfl) (hpl : (backTo pos (starEach es X.env)).any (·.1) = false := by exact plain_ok rfl) : ED X Γ (.Call (.Name n p) (e :: es) [] pos) (.ins n (flds a)) := by
  obtain ⟨C, f, fd, ps, h1, hC, hM, hF, hB⟩ := hk.ex
  refine ed_of (pe_make (E := E0) hM hF hr hg h1 hB .nil passL pa_w hdb he hpl) fun F σ G H s Q q => ha F σ G H s _ fun vs G1 H1 g1 i1 x dx hx hdx hne => ?_
  rw [List.append_nil]
  have gx : G1 x = none := Evl.fresh_back g1.s hx
  have gdx : G1 dx = none := Evl.fresh_back g1.s hdx
  have up : ∀ b o, H1 b = some o → (upd (upd H1 dx (.own x)) x (.ins C dx [])) b = some o := fun b o eb => by
    rw [upd_ne (ne_of_none eb hx), upd_ne (ne_of_none eb hdx)]
    exact eb
  have ex1 : Ex G1 (upd (upd H1 dx (.own x)) x (.ins C dx [])) := fun b o eb => up b o (g1.s b o eb)
  have i2 : IsAs X.K G1 (upd (upd H1 dx (.own x)) x (.ins C dx [])) vs (enc a) := by
    clear hp
    generalize enc a = as at i1
    induction i1 with
    | nil => exact .nil
    | d h _ ih => exact .d h ih
    | l h1 h2 _ ih => exact .l (up _ _ h1) h2 ih
  refine ⟨x, dx, C, vs, a, G1, rfl, hC, upd_same, gx, ex1, i2, hp, fun G' H' xs g hx' gx' hi => ⟨rfl, ?_⟩⟩
  have hH : Ex H1 H' := fun b o eb => by
    have hb : b ≠ x := ne_of_none eb hx
    have hb2 : b ≠ dx := ne_of_none eb hdx
    have z := g.h b o (by rw [dl_ne hb, upd_ne hb, upd_ne hb2]; exact eb)
    rw [dl_ne hb] at z
    exact z
  have gs : Ex G' H' := fun b o eb => by
    have hb : b ≠ x := ne_of_none eb gx'
    have z := g.s b o eb
    rw [dl_ne hb] at z
    exact z
  have g2 : Grow G1 H1 G' H' := ⟨g.g, hH, gs, fun b o eb mb => by
    have hb : b ≠ x := ne_of_none eb hx
    have hb2 : b ≠ dx := ne_of_none eb hdx
    exact g.f b o (by rw [dl_ne hb, upd_ne hb, upd_ne hb2]; exact eb) mb⟩
  exact q (.ref x) (upd G' x (.ins C dx xs)) H' (g1.trans (g2.frz hx hx' gx')) (.ins hC.nm upd_same (IsFs.mono (Evl.Ex.new gx') _ _ hi))
end
end Sd

namespace Sd
open PySem PySem.Spec PyProof.Rows L2
/-! ### what a def hands back, by its kind -/
inductive Out (R : Type) where
  | ok (v : R) | err (e : Exn) | stk
inductive Co (S T R : Type) where
  | go (s : S) | brk (b : T) | ret (o : Out R)
def rsOf {R : Type} (f : R → Res) : Out R → Res
  | .ok v => f v
  | .err e => .x e
  | .stk => .stk
def Co.ctl {S T R : Type} (f : R → Res) : Co S T R → Ctl S T
  | .go s => .go s
  | .brk b => .brk b
  | .ret o => .ret (rsOf f o)
def Out.IsOk {R : Type} : Out R → Prop
  | .ok _ => True
  | _ => False
def Out.get {R : Type} (d : R) : Out R → R
  | .ok v => v
  | _ => d
theorem Out.get_ok {R : Type} {d : R} {o : Out R} (h : o.IsOk) : o = .ok (o.get d) := by
  cases o with
  | ok v => rfl
  | err e => exact h.elim
  | stk => exact h.elim
theorem Out.ok_of {R : Type} {o : Out R} {v : R} (h : o = .ok v) : o.IsOk := by
  rw [h]
  trivial
theorem Out.get_of {R : Type} {o : Out R} {v d : R} (h : o = .ok v) : o.get d = v := by
  rw [h]
  rfl
theorem rsOf_ok {R : Type} {f : R → Res} {o : Out R} (d : R) (h : o.IsOk) : rsOf f o = f (o.get d) := by
  cases o with
  | ok v => rfl
  | err e => exact h.elim
  | stk => exact h.elim
def Co.bind {S S' T R : Type} (c : Co S T R) (f : S → Co S' T R) : Co S' T R := match c with
  | .go s => f s
  | .brk b => .brk b
  | .ret r => .ret r
def Co.up {S T R : Type} (c : Co Empty T R) : Co S T R := match c with
  | .go s => nomatch s
  | .brk b => .brk b
  | .ret r => .ret r
def coLoop {S Y T R : Type} (step : S → Y → Co S S R) : S → List Y → Co S T R
  | s, [] => .go s
  | s, y :: ys => match step s y with
    | .go s' => coLoop step s' ys
    | .brk s' => .go s'
    | .ret r => .ret r
def bndO {α S T R : Type} (r : Out α) (k : α → Co S T R) : Co S T R := match r with
  | .ok v => k v
  | .err e => .ret (.err e)
  | .stk => .ret .stk
noncomputable def chk {S T R : Type} (p : Prop) (k : Co S T R) : Co S T R := @ite _ p (Classical.propDecidable p) k (.ret .stk)
theorem chk_pos {S T R : Type} {p : Prop} {k : Co S T R} (h : p) : chk p k = k := by
  unfold chk
  exact if_pos h
theorem chk_neg {S T R : Type} {p : Prop} {k : Co S T R} (h : ¬ p) : chk p k = .ret .stk := by
  unfold chk
  exact if_neg h
/-- what a body hands back, g where it falls through -/
def Co.out {R : Type} (g : Out R) : Co Unit Empty R → Out R
  | .go _ => g
  | .brk b => nomatch b
  | .ret o => o
theorem ctl_bind {S S' T R : Type} {f : R → Res} (c : Co S T R) (k : S → Co S' T R) : (c.bind k).ctl f = (c.ctl f).bind fun s => (k s).ctl f := by
  cases c <;> rfl
theorem ctl_up {S T R : Type} {f : R → Res} (c : Co Empty T R) : (c.up : Co S T R).ctl f = (c.ctl f).up := by
  cases c with
  | go s => exact nomatch s
  | brk b => rfl
  | ret r => rfl
theorem ctl_ite {S T R : Type} {f : R → Res} (b : Bool) (k1 k2 : Co S T R) : (if b = true then k1 else k2).ctl f = if b = true then k1.ctl f else k2.ctl f := by
  cases b <;> rfl
theorem ctl_loop {S Y T R : Type} {f : R → Res} {step : S → Y → Co S S R} : ∀ (ys : List Y) (s : S), (coLoop step s ys : Co S T R).ctl f = loop (fun s y => (step s y).ctl f) s ys
  | [], s => rfl
  | y :: ys, s => by
    unfold coLoop loop
    cases h : step s y with
    | go s' => exact ctl_loop ys s'
    | brk s' => rfl
    | ret r => rfl
abbrev BC {S T R : Type} (X : Cx) (E : XK) (Γ : List B) (sts : List Stmt) (Γs : S → List B) (Γb : T → List B) (f : R → Res) (k : Co S T R) : Prop := BK X E Γ sts Γs Γb (k.ctl f)
section
variable {X : Cx} {E : XK} {Γ : List B} {S T R : Type} {Γs : S → List B} {Γb : T → List B} {f : R → Res} {st : Stmt} {rest sts : List Stmt} {pos : Pos} {lv : Nat} {N : List Str} {sc : Scope} {y : Str} {py : Pos} {e : Expr}
theorem c_stk : BC X E Γ sts Γs Γb f (.ret .stk) := fun F G0 σ G H D s gr post => (show False from post).elim
theorem c_chk {p : Prop} {k : Co S T R} (h : p → BC X E Γ sts Γs Γb f k) : BC X E Γ sts Γs Γb f (chk p k) := by
  by_cases q : p
  · rw [chk_pos q]
    exact h q
  · rw [chk_neg q]
    exact c_stk
theorem c_nil {s : S} (h : Wk Γ (Γs s)) : BC X E Γ [] Γs Γb f (.go s) := b_nil h
theorem c_ret {x : R} {z : D} (he : ED X Γ e z) (hf : f x = .v z) : BC X E Γ (.Return (some e) pos :: rest) Γs Γb f (.ret (.ok x)) := by
  show BK _ _ _ _ _ _ (.ret (f x))
  rw [hf]
  exact b_ret he
theorem c_retO {x : R} {z : OO} (he : EO X Γ e z) (hf : f x = .o z) : BC X E Γ (.Return (some e) pos :: rest) Γs Γb f (.ret (.ok x)) := by
  show BK _ _ _ _ _ _ (.ret (f x))
  rw [hf]
  exact b_retO he
theorem c_retN {x : R} (hf : f x = .v .non) : BC X E Γ (.Return none pos :: rest) Γs Γb f (.ret (.ok x)) := by
  show BK _ _ _ _ _ _ (.ret (f x))
  rw [hf]
  exact b_retN
theorem c_retV (i : Nat) {o : OO} {x : R} (hX : XOk lv N sc X) (hn : N[i]? = some y) (hl : Vis sc y) (h : Γ[i]? = some (B.own o)) (hf : f x = .o o) (hd : (y == ("__debug__" : Str)) = false := by decide) (hcd : (y == ("__classdict__" : Str)) = false := by decide) :
    BC X E Γ (.Return (some (.Name y py)) pos :: rest) Γs Γb f (.ret (.ok x)) := by
  show BK _ _ _ _ _ _ (.ret (f x))
  rw [hf]
  exact b_retV i hX hn hl h hd hcd
theorem c_retR {r : Out R} (he : ER X E Γ e (rsOf f r)) : BC X E Γ (.Return (some e) pos :: rest) Γs Γb f (.ret r) := b_retR he
variable {c : Expr} {b : Bool} {A C : List Stmt}
theorem c_ifr {k1 : Co Empty T R} {k2 : Co S T R} (hc : ET X Γ c b) (h1 : b = true → BC X E Γ A (fun s : Empty => nomatch s) Γb f k1) (h2 : b = false → BC X E Γ rest Γs Γb f k2) : BC X E Γ (.If c A [] pos :: rest) Γs Γb f (if b = true then k1.up else k2) := by
  show BK _ _ _ _ _ _ (Co.ctl f (if b = true then k1.up else k2))
  rw [ctl_ite, ctl_up]
  exact b_ifr hc h1 h2
theorem c_ifj {S' : Type} {Γj : S' → List B} {k1 k2 : Co S' T R} {kr : S' → Co S T R} (hc : ET X Γ c b) (h1 : b = true → BC X E Γ A Γj Γb f k1) (h2 : b = false → BC X E Γ C Γj Γb f k2) (hr : ∀ s', BC X E (Γj s') rest Γs Γb f (kr s')) : BC X E Γ (.If c A C pos :: rest) Γs Γb f ((if b = true then k1 else k2).bind kr) := by
  show BK _ _ _ _ _ _ (Co.ctl f ((if b = true then k1 else k2).bind kr))
  rw [ctl_bind, ctl_ite]
  exact b_ifj hc h1 h2 fun s' _ => hr s'
theorem c_for {S' Y : Type} {Γl : S' → List B} {kr : S' → Co S T R} {tg iter : Expr} {body : List Stmt} {g : TG} {js : List Nat} (encY : Y → D) (step : S' → Y → Co S' S' R) (s0 : S') (ys : List Y) (Γy : S' → Y → List B) (hM : XCm X E) (hX : XOk lv N sc X)
    (h0 : Wk Γ (Γl s0)) (hi : IT X Γ tg iter (ys.map encY)) (hg : PG X tg g) (htg : ∀ s y, TgD X.K g js (Γl s) (encY y) (Γy s y))
    (hb : ∀ s y, BC X E (Γy s y) body Γl Γl f (step s y)) (hr : ∀ s, BC X E (Γl s) rest Γs Γb f (kr s)) (hs : ∀ x, foldedSetIterable iter X.env x = pure x := by exact fs_ns rfl) :
    BC X E Γ (.For tg iter body [] pos :: rest) Γs Γb f ((coLoop step s0 ys).bind kr) := by
  show BK _ _ _ _ _ _ (Co.ctl f ((coLoop step s0 ys).bind kr))
  rw [ctl_bind, ctl_loop]
  exact b_for (fun _ _ => True) encY _ s0 ys Γy hM hX h0 trivial hi hg htg (fun i s y _ _ => hb s y) (fun _ _ _ _ _ _ _ => trivial) (fun s _ => hr s) hs
theorem c_setR {τ : Type} (i : Nat) (enc : τ → D) {r : Out τ} {k : τ → Co S T R} (hX : XOk lv N sc X) (hn : N[i]? = some y) (hl : Loc sc y) (he : ER X E Γ e (rsOf (fun v => .v (enc v)) r)) (hr : ∀ v, BC X E (Γ.set i (.d (enc v))) rest Γs Γb f (k v)) (hs : swapsWith e (some (.Name y py)) pos.line X.env = pure false := by exact sw_ns rfl) :
    BC X E Γ (.Assign [.Name y py] e pos :: rest) Γs Γb f (bndO r k) := by
  cases r with
  | ok v => exact b_setR i enc (r := .ok v) (k := fun v => (k v).ctl f) hX hn hl he (fun v _ => hr v) hs
  | err x => exact b_setR i enc (r := .error x) (k := fun v => (k v).ctl f) hX hn hl he (fun v _ => hr v) hs
  | stk => exact c_stk
theorem c_setRO {τ : Type} (i : Nat) (enc : τ → OO) {r : Out τ} {k : τ → Co S T R} (hX : XOk lv N sc X) (hn : N[i]? = some y) (hl : Loc sc y) (he : ER X E Γ e (rsOf (fun v => .o (enc v)) r)) (hr : ∀ v, BC X E (Γ.set i (.own (enc v))) rest Γs Γb f (k v)) (hs : swapsWith e (some (.Name y py)) pos.line X.env = pure false := by exact sw_ns rfl) :
    BC X E Γ (.Assign [.Name y py] e pos :: rest) Γs Γb f (bndO r k) := by
  cases r with
  | ok v => exact b_setRO i enc (r := .ok v) (k := fun v => (k v).ctl f) hX hn hl he (fun v _ => hr v) hs
  | err x => exact b_setRO i enc (r := .error x) (k := fun v => (k v).ctl f) hX hn hl he (fun v _ => hr v) hs
  | stk => exact c_stk
theorem c_setRT {τ : Type} (enc : τ → D) {r : Out τ} {k : τ → Co S T R} {tg : Expr} {g : TG} {js : List Nat} (Γ' : τ → List B) (hg : PG X tg g) (htg : ∀ v, TgD X.K g js Γ (enc v) (Γ' v)) (he : ER X E Γ e (rsOf (fun v => .v (enc v)) r)) (hr : ∀ v, BC X E (Γ' v) rest Γs Γb f (k v))
    (hs : swapsWithSole [tg] e pos.line X.env = pure false := by exact sws_ns rfl) (hw : swappedStores [tg] e X.env = pure none := by exact sst_ns rfl) (h1 : (assignEach [tg] X.env).map (·.2) = [assign tg X.env] := by rfl) : BC X E Γ (.Assign [tg] e pos :: rest) Γs Γb f (bndO r k) := by
  cases r with
  | ok v => exact b_setRT enc (r := .ok v) (k := fun v => (k v).ctl f) Γ' hg htg he (fun v _ => hr v) hs hw h1
  | err x => exact b_setRT enc (r := .error x) (k := fun v => (k v).ctl f) Γ' hg htg he (fun v _ => hr v) hs hw h1
  | stk => exact c_stk
/-- an expression that is evaluated for its own sake -/
theorem c_exprR {τ : Type} {res : τ → Res} {r : Out τ} {k : τ → Co S T R} (he : ER X E Γ e (rsOf res r)) (hr : ∀ v, BC X E Γ rest Γs Γb f (k v)) (hs : swapsWith e none pos.line X.env = pure false := by exact sw_ns rfl) (hres : ∀ v, (∃ z, res v = .v z) ∨ ∃ z, res v = .o z := by exact fun _ => by first | exact .inl ⟨_, rfl⟩ | exact .inr ⟨_, rfl⟩) :
    BC X E Γ (.Expr e pos :: rest) Γs Γb f (bndO r k) := by
  cases r with
  | ok v =>
    intro F G0 σ G H D s gr post
    refine w_cons (ps_expr pe_w hs) (he F σ G H s _ ?_)
    show PostR _ _ _ _ _ (res v)
    rcases hres v with ⟨z, e⟩ | ⟨z, e⟩
    · rw [e]
      exact fun v' G1 H1 g1 _ => hr v F G0 σ G1 H1 D (s.grow g1) (gr.trans g1) (PostC.up post g1.g)
    · rw [e]
      exact fun p u G1 H1 g1 _ _ _ _ => hr v F G0 σ G1 H1 D (s.grow g1) (gr.trans g1) (PostC.up post g1.g)
  | err x =>
    intro F G0 σ G H D s gr post
    exact w_cons (ps_expr pe_w hs) (he F σ G H s _ (PostR.grow gr (show PostR X.K F G0 E D.rt (.x x) from post)))
  | stk => exact c_stk
end
/-! ### defs -/
section
variable {P : Program} {w : World} {K : PySem.W.Frag} {mg : Str → Option Value} {base : Heap} {x qual : Str} {st : Stmt} {fa : Addr} {fd : FuncData} {N ps : List Str} {lv : Nat} {A R : Type} {encA : A → List AK} {f : R → Res}
theorem def_okC (F : Fun K x qual st fa fd) (S : FnScope N ps (defScope st)) (g : Out R) (hg : rsOf f g = .stk ∨ rsOf f g = .v .non) (hlen : ∀ a, (encA a).length = ps.length) (k : A → Co Unit Empty R)
    (hb : ∀ a, ∀ (X : Cx) (E : XK), X.prog = P → X.w = w → X.K = K → X.mg = mg → X.base = base → XOk lv N (defScope st) X → XCm X E →
      BC X E ((encA a).map bOf ++ List.replicate (N.length - (encA a).length) B.un) (defBody st) (fun s : Unit => List.replicate N.length B.un) (fun s : Empty => nomatch s) f (k a)) : FnOk P w K mg base (L2.CX P w) (lv + 1) fa fd ps (spG K encA (fun _ => True) (fun a => rsOf f ((k a).out g))) := by
  refine F.okX S (fun vs H Q E h => ?_) (fun cdv Ar outer s H vs Q E hr h => ?_)
  · obtain ⟨a, G, _, h2, _⟩ := h
    rw [h2.len, hlen]
  · obtain ⟨a, G, h1, h2, h3, h4⟩ := h
    have h4 : PostR K H G E Q (rsOf f ((k a).out g)) := h4
    generalize hX : cxOf (L2.CX P w) P w K mg base N qual (defScope st) fa cdv Ar outer s H E = X
    have ok : XOk lv N (defScope st) X := by
      subst hX
      exact ⟨⟨hr.dp, hr.un⟩, fun _ => rfl, rfl, rfl, S.nd, S.kind, rfl, rfl⟩
    have cm : XCm X E := by
      subst hX
      exact ⟨rfl, hr.hd, passes_of rfl, takes_of rfl rfl rfl rfl⟩
    have b := hb a X E (by subst hX; rfl) (by subst hX; rfl) (by subst hX; rfl) (by subst hX; rfl) (by subst hX; rfl) ok cm
    have hK : X.K = K := by subst hX; rfl
    refine ⟨wS X (defBody st), pss_w, ?_⟩
    refine b H G _ G H _ ?_ (Grow.refl h1) ?_
    · rw [hK]
      exact stt_startN h2 h1
    · rw [hK]
      cases hka : k a with
      | go u =>
        rw [hka] at h4
        have h4' : PostR K H G E Q (rsOf f g) := h4
        rcases hg with hg | hg
        · rw [hg] at h4'
          exact (show False from h4').elim
        · rw [hg] at h4'
          exact fun σ' G' H' _ _ gr => h4' .non G' H' gr .non
      | brk b => exact nomatch b
      | ret r =>
        rw [hka] at h4
        exact h4
end
end Sd

namespace Sd
open PySem PySem.Spec PyProof.Rows L2
section
variable {X : Cx} {E : XK} {Γ : List B} {S T R : Type} {Γs : S → List B} {Γb : T → List B} {f : R → Res} {st : Stmt} {rest sts : List Stmt} {pos : Pos} {lv : Nat} {N : List Str} {sc : Scope} {y : Str} {py : Pos} {e o ie : Expr} {apos cpos spos : Pos}
theorem c_frz (i : Nat) {ds : List D} {k : Co S T R} (h : Γ[i]? = some (B.own (.lst ds))) (hr : BC X E (Γ.set i (.d (.lst ds))) sts Γs Γb f k) : BC X E Γ sts Γs Γb f k := b_frz i h hr
theorem c_set {τ : Type} (i : Nat) (enc : τ → D) {x : τ} {k : τ → Co S T R} (hX : XOk lv N sc X) (hn : N[i]? = some y) (hl : Loc sc y) (he : ED X Γ e (enc x)) (hr : ∀ v, v = x → BC X E (Γ.set i (.d (enc v))) rest Γs Γb f (k v)) (hs : swapsWith e (some (.Name y py)) pos.line X.env = pure false := by exact sw_ns rfl) :
    BC X E Γ (.Assign [.Name y py] e pos :: rest) Γs Γb f (bnd x k) := by
  show BK _ _ _ _ _ _ (bnd x fun v => (k v).ctl f)
  exact b_set i enc hX hn hl he hr hs
theorem c_setO {τ : Type} (i : Nat) (enc : τ → OO) {x : τ} {k : τ → Co S T R} (hX : XOk lv N sc X) (hn : N[i]? = some y) (hl : Loc sc y) (he : EO X Γ e (enc x)) (hr : ∀ v, v = x → BC X E (Γ.set i (.own (enc v))) rest Γs Γb f (k v)) (hs : swapsWith e (some (.Name y py)) pos.line X.env = pure false := by exact sw_ns rfl) :
    BC X E Γ (.Assign [.Name y py] e pos :: rest) Γs Γb f (bnd x k) := by
  show BK _ _ _ _ _ _ (bnd x fun v => (k v).ctl f)
  exact b_setO i enc hX hn hl he hr hs
theorem c_setLc {τ : Type} (i : Nat) (enc : τ → OO) {x : τ} {k : τ → Co S T R} {elt tg iter : Expr} {ifs : List Expr} {scope : Scope} {own : List (Str × Nat)} {cp : Pos} (hM : XCm X E) (hX : XOk lv N sc X) (hn : N[i]? = some y) (hl : sc.names.lookup y = some .local)
    (hsw : swapsWith (.ListComp elt [⟨tg, iter, ifs, 0⟩] scope cp) (some (.Name y py)) pos.line X.env = pure true) (he : LcOk X Γ elt tg iter ifs scope own (enc x)) (hr : ∀ v, v = x → BC X E (Γ.set i (.own (enc v))) rest Γs Γb f (k v)) (hs : ∀ x, foldedSetIterable iter X.env x = pure x := by exact fs_ns rfl) :
    BC X E Γ (.Assign [.Name y py] (.ListComp elt [⟨tg, iter, ifs, 0⟩] scope cp) pos :: rest) Γs Γb f (bnd x k) := by
  show BK _ _ _ _ _ _ (bnd x fun v => (k v).ctl f)
  exact b_setLc i enc hM hX hn hl hsw he hr hs
theorem c_setT {τ : Type} (enc : τ → D) {x : τ} {k : τ → Co S T R} {tg : Expr} {g : TG} {js : List Nat} (Γ' : τ → List B) (hg : PG X tg g) (htg : ∀ v, TgD X.K g js Γ (enc v) (Γ' v)) (he : ED X Γ e (enc x)) (hr : ∀ v, v = x → BC X E (Γ' v) rest Γs Γb f (k v))
    (hs : swapsWithSole [tg] e pos.line X.env = pure false := by exact sws_ns rfl) (hw : swappedStores [tg] e X.env = pure none := by exact sst_ns rfl) (h1 : (assignEach [tg] X.env).map (·.2) = [assign tg X.env] := by rfl) : BC X E Γ (.Assign [tg] e pos :: rest) Γs Γb f (bnd x k) := by
  show BK _ _ _ _ _ _ (bnd x fun v => (k v).ctl f)
  exact b_setT enc Γ' hg htg he hr hs hw h1
theorem c_app {τ : Type} {pa : Option Addr} (i : Nat) (enc : τ → D) {xs : List τ} {x : τ} {k : List τ → Co S T R} (hX : XOk lv N sc X) (hn : N[i]? = some y) (hl : Vis sc y) (h : Γ[i]? = some (B.own (.lst (xs.map enc)) pa)) (he : ED X Γ e (enc x)) (hz : xs.length < sizeLine)
    (hr : ∀ zs, zs = xs ++ [x] → BC X E (Γ.set i (.own (.lst (zs.map enc)) pa)) rest Γs Γb f (k zs)) (hfew : ((backTo cpos (starEach (e :: []) X.env)).all (fun x => !x.1) && (backToKw cpos (keywordEach [] X.env)).all (fun x => x.1.isSome) && decide ((e :: ([] : List Expr)).length + ([] : List Keyword).length + (if ([] : List Keyword).isEmpty then 0 else 1) < 30)) = true := by exact few_ok rfl)
    (hst : starEach (e :: []) X.env = (false, eval e X.env) :: starEach [] X.env := by exact starEach_ns rfl) (hline : (apos.endLine == cpos.line) = true := by rfl) (hd : (y == ("__debug__" : Str)) = false := by decide) (hcd : (y == ("__classdict__" : Str)) = false := by decide) :
    BC X E Γ (.Expr (.Call (.Attribute (.Name y py) "append" apos) [e] [] cpos) pos :: rest) Γs Γb f (bnd (xs ++ [x]) k) := by
  show BK _ _ _ _ _ _ (bnd (xs ++ [x]) fun v => (k v).ctl f)
  exact b_app i enc hX hn hl h he hz hr (hfew := hfew) (hst := hst) (hline := hline) (hd := hd) (hcd := hcd)
theorem c_setI {τ : Type} {pa : Option Addr} (i : Nat) (enc : τ → D) {xs : List τ} {x : τ} {n : Int} {k : List τ → Co S T R} (hX : XOk lv N sc X) (hn : N[i]? = some y) (hl : Vis sc y) (h : Γ[i]? = some (B.own (.lst (xs.map enc)) pa)) (he : ED X Γ e (enc x)) (hi : ED X Γ ie (.int n)) (hz : 0 ≤ n ∧ n < xs.length)
    (hr : ∀ zs, zs = xs.set n.toNat x → BC X E (Γ.set i (.own (.lst (zs.map enc)) pa)) rest Γs Γb f (k zs))
    (hs : swapsWithSole [.Subscript (.Name y py) ie spos] e pos.line X.env = pure false := by exact sws_ns rfl)
    (ha : ∀ v, assign (.Subscript (.Name y py) ie spos) X.env v = (do
      let ov ← holding [v] (eval (.Name y py) X.env)
      let iv ← holding [v, ov] (eval ie X.env)
      standAt spos
      holding [v, ov, iv] (setItem ov iv v)
      release [v, ov, iv] []) := by intro _; rfl) (hd : (y == ("__debug__" : Str)) = false := by decide) (hcd : (y == ("__classdict__" : Str)) = false := by decide) :
    BC X E Γ (.Assign [.Subscript (.Name y py) ie spos] e pos :: rest) Γs Γb f (bnd (xs.set n.toNat x) k) := by
  show BK _ _ _ _ _ _ (bnd (xs.set n.toNat x) fun v => (k v).ctl f)
  obtain ⟨m, rfl⟩ := Int.eq_ofNat_of_zero_le hz.1
  exact b_setI i enc hX hn hl h he hi (show m < xs.length by omega) hr (hs := hs) (ha := ha) (hd := hd) (hcd := hcd)
theorem c_clear {τ : Type} {pa : Option Addr} (i : Nat) (enc : τ → D) {xs : List τ} {k : Co S T R} (hX : XOk lv N sc X) (hn : N[i]? = some y) (hl : Vis sc y) (h : Γ[i]? = some (B.own (.lst (xs.map enc)) pa)) (hz : xs.length ≤ sizeLine)
    (hr : BC X E (Γ.set i (.own (.lst (([] : List τ).map enc)) pa)) rest Γs Γb f k) (hline : (apos.endLine == cpos.line) = true := by rfl) (hd : (y == ("__debug__" : Str)) = false := by decide) (hcd : (y == ("__classdict__" : Str)) = false := by decide) :
    BC X E Γ (.Expr (.Call (.Attribute (.Name y py) "clear" apos) [] [] cpos) pos :: rest) Γs Γb f k := b_clear i enc hX hn hl h hz hr (hline := hline) (hd := hd) (hcd := hcd)
/-- y.reverse() -/
theorem c_reverse {τ : Type} {pa : Option Addr} (i : Nat) (enc : τ → D) {xs : List τ} {k : List τ → Co S T R} (hX : XOk lv N sc X) (hn : N[i]? = some y) (hl : Vis sc y) (h : Γ[i]? = some (B.own (.lst (xs.map enc)) pa))
    (hr : ∀ zs, zs = xs.reverse → BC X E (Γ.set i (.own (.lst (zs.map enc)) pa)) rest Γs Γb f (k zs)) (hline : (apos.endLine == cpos.line) = true := by rfl) (hd : (y == ("__debug__" : Str)) = false := by decide) (hcd : (y == ("__classdict__" : Str)) = false := by decide) :
    BC X E Γ (.Expr (.Call (.Attribute (.Name y py) "reverse" apos) [] [] cpos) pos :: rest) Γs Γb f (bnd xs.reverse k) := fun F G0 σ G H D s gr post => by
  obtain ⟨p, u, h1, h2, h3, h4, h5, _⟩ := s.own i _ _ h
  obtain ⟨vs, rfl, iv⟩ := h5.lst
  refine w_cons (ps_expr (pe_bm0 PySem.F.plainAttrs_list PySem.F.slot_list_reverse PySem.F.type_list_reverse mt_reverse (pe_var (hX.nm hn) (hX.vs hl) hd hcd) (ab_ns rfl) hline) (sw_ns rfl)) ?_
  refine ⟨_, h1, .inl ⟨rfl, vs, .inl (.inl h2)⟩, ?_⟩
  have s2 := s.mut (u := .lst vs.reverse) (o' := .lst (xs.reverse.map enc)) h h1 (by
    show IsAll _ _ _ _
    rw [List.map_reverse]
    exact iv.rev)
  refine ⟨p, vs, rfl, rfl, h2, ?_⟩
  refine hr _ rfl F G0 σ G _ D s2 ⟨gr.g, fun b o eo => ?_, s2.sub, gr.f⟩ post
  rw [upd_ne (ne_of_none eo h4)]
  exact gr.h b o eo
/-- y.extend(zs) -/
theorem c_extend {τ : Type} {pa : Option Addr} (i : Nat) (enc : τ → D) {xs ys : List τ} {k : List τ → Co S T R} (hX : XOk lv N sc X) (hn : N[i]? = some y) (hl : Vis sc y) (h : Γ[i]? = some (B.own (.lst (xs.map enc)) pa)) (he : EL X Γ e (ys.map enc)) (hz : xs.length + ys.length ≤ sizeLine)
    (hr : ∀ zs, zs = xs ++ ys → BC X E (Γ.set i (.own (.lst (zs.map enc)) pa)) rest Γs Γb f (k zs)) (hfew : ((backTo cpos (starEach (e :: []) X.env)).all (fun x => !x.1) && (backToKw cpos (keywordEach [] X.env)).all (fun x => x.1.isSome) && decide ((e :: ([] : List Expr)).length + ([] : List Keyword).length + (if ([] : List Keyword).isEmpty then 0 else 1) < 30)) = true := by exact few_ok rfl)
    (hst : starEach (e :: []) X.env = (false, eval e X.env) :: starEach [] X.env := by exact starEach_ns rfl) (hline : (apos.endLine == cpos.line) = true := by rfl) (hd : (y == ("__debug__" : Str)) = false := by decide) (hcd : (y == ("__classdict__" : Str)) = false := by decide) :
    BC X E Γ (.Expr (.Call (.Attribute (.Name y py) "extend" apos) [e] [] cpos) pos :: rest) Γs Γb f (bnd (xs ++ ys) k) := fun F G0 σ G H D s gr post => by
  obtain ⟨p, u, h1, h2, h3, h4, h5, _⟩ := s.own i _ _ h
  obtain ⟨vs, rfl, iv⟩ := h5.lst
  refine w_cons (ps_expr (pe_bm PySem.F.plainAttrs_list PySem.F.slot_list_extend PySem.F.type_list_extend mt_extend (pe_var (hX.nm hn) (hX.vs hl) hd hcd) (pa_cons pe_w pa_nil hst) (ab_ns rfl) hfew hline hst (plain_ok rfl)) (sw_ns rfl)) ?_
  refine ⟨_, h1, .inl ⟨rfl, vs, .inl (.inl h2)⟩, he F σ G H s _ fun q ws G1 H1 g1 hq i1 => ?_⟩
  have s1 := s.grow g1
  have nG : G1 p = none := g1.f p _ h2 h3
  refine ⟨p, q, vs, ws, rfl, rfl, g1.h _ _ h2, hq, by rw [iv.len, i1.len, List.length_map, List.length_map]; exact hz, ?_⟩
  have s2 := s1.mut (u := .lst (vs ++ ws)) (o' := .lst ((xs ++ ys).map enc)) h h1 (by
    show IsAll _ _ _ _
    rw [List.map_append]
    exact (iv.up g1.g).app i1)
  have g2 := gr.trans g1
  refine hr (xs ++ ys) rfl F G0 σ G1 _ D s2 ⟨g2.g, fun b o eo => ?_, s2.sub, g2.f⟩ (post.up g1.g)
  rw [upd_ne (ne_of_none eo h4)]
  exact g2.h b o eo
theorem c_appX {ds : List D} {x : D} {k : Co S T R} (hX : XOk lv N sc X) (ho : EO X Γ o (.lst ds)) (he : ED X Γ e x) (hz : ds.length < sizeLine) (hr : BC X E Γ rest Γs Γb f k)
    (hbase : attributeBase o "append" X.env (eval o X.env) = eval o X.env := by rfl) (hfew : ((backTo cpos (starEach (e :: []) X.env)).all (fun x => !x.1) && (backToKw cpos (keywordEach [] X.env)).all (fun x => x.1.isSome) && decide ((e :: ([] : List Expr)).length + ([] : List Keyword).length + (if ([] : List Keyword).isEmpty then 0 else 1) < 30)) = true := by exact few_ok rfl)
    (hst : starEach (e :: []) X.env = (false, eval e X.env) :: starEach [] X.env := by exact starEach_ns rfl) (hline : (apos.endLine == cpos.line) = true := by rfl) :
    BC X E Γ (.Expr (.Call (.Attribute o "append" apos) [e] [] cpos) pos :: rest) Γs Γb f k := b_appX hX ho he hz hr hbase (hfew := hfew) (hst := hst) (hline := hline)
theorem c_pass {k : Co S T R} (hr : BC X E Γ rest Γs Γb f k) : BC X E Γ (.Pass pos :: rest) Γs Γb f k := fun F G0 σ G H D s gr post => w_cons ps_pass (hr F G0 σ G H D s gr post)
theorem c_brk {b : T} (h : Wk Γ (Γb b)) : BC X E Γ (.Break pos :: rest) Γs Γb f (.brk b) := fun F G0 σ G H D s gr post => w_cons ps_break (post σ G H (Evl.Ex.refl _) (s.wk h) gr)
end
/-! ### methods with arguments -/
section
variable {X : Cx} {E : XK} {Γ : List B} {pos p apos : Pos} {n m : Str} {lv : Nat} {A : Type} {enc : A → List AK} {pre : A → Prop} {res : A → Res} {e o : Expr} {es : List Expr} {ds : List (Str × D)} {args : List AK} {pl : Sem Bool}
theorem er_meth (a : A) (tk : Takes X (fun cls d _ H => E cls d H)) (hk : MethX X n m lv (spG X.K enc pre res)) (hr : Room lv X.A) (he : ED X Γ o (.ins n ds)) (ha : EA2 X Γ (e :: es) args) (henc : enc a = .d (.ins n ds) :: args) (hp : pre a) (hl : ds.lookup m = none)
    (ht : eval (.Call (.Attribute o m apos) (e :: es) [] pos) X.env = (do
      let ov ← eval o X.env
      standAt apos.atName
      let (f, first) ← holding [ov] (getMethod ov m pl)
      callWith pos f first (backTo pos (starEach (e :: es) X.env)) (backToKw pos (keywordEach [] X.env))) := by rfl)
    (hst : starEach (e :: es) X.env = (false, eval e X.env) :: starEach es X.env := by exact starEach_ns rfl) (hpl : (backTo pos (starEach es X.env)).any (·.1) = false := by exact plain_ok rfl) : ER X E Γ (.Call (.Attribute o m apos) (e :: es) [] pos) (res a) := by
  obtain ⟨C, f, fd, ps, hC, hM, hF, hB⟩ := hk.ex
  refine er_of (pe_meth (E := E) pe_w hC.cl hM hF hr hB .nil (passes_call tk fun _ _ _ _ h => h) pa_w hst hpl ht) fun F σ G H s Q q => he F σ G H s _ fun v G1 H1 g1 i1 => ?_
  have i0 := i1
  cases i1 with
  | @ins b C' dx _ xs _ h0 h1 h2 =>
    have e := hC.eq h0
    subst e
    refine ⟨b, dx, xs, rfl, g1.s _ _ h1, h2.no hl, ha F σ G1 H1 (s.grow g1) _ fun vs G2 H2 g2 i2 => ?_⟩
    rw [List.append_nil]
    exact ⟨a, G2, g2.s, by rw [henc]; exact .d (i0.up g2.g) i2, hp, PostR.grow (g1.trans g2) q⟩
theorem er_meth0G (a : A) (tk : Takes X (fun cls d _ H => E cls d H)) (hk : MethX X n m lv (spG X.K enc pre res)) (hr : Room lv X.A) (he : ED X Γ o (.ins n ds)) (henc : enc a = [.d (.ins n ds)]) (hp : pre a) (hl : ds.lookup m = none)
    (ht : eval (.Call (.Attribute o m apos) [] [] pos) X.env = (do
      let ov ← eval o X.env
      standAt apos.atName
      let (f, first) ← holding [ov] (getMethod ov m pl)
      callWith pos f first (backTo pos (starEach [] X.env)) (backToKw pos (keywordEach [] X.env))) := by rfl) : ER X E Γ (.Call (.Attribute o m apos) [] [] pos) (res a) := by
  obtain ⟨C, f, fd, ps, hC, hM, hF, hB⟩ := hk.ex
  exact er_of (pe_meth0 (E := E) pe_w hC.cl hM hF hr hB .nil (passes_call tk fun _ _ _ _ h => h) ht) (ev_meth0 (E' := E) hC he hl fun G H v ex i Q q => ⟨a, G, ex, by rw [henc]; exact .d i .nil, hp, q⟩)
end
/-! ### what comes to a value for certain -/
section
variable {X : Cx} {E : XK} {Γ : List B} {e : Expr} {τ : Type} {f : τ → Res} {r : Out τ}
theorem ed_okR {z : τ → D} (d : τ) (h : ∀ E, Takes X (fun cls d _ H => E cls d H) → ER X E Γ e (rsOf f r)) (hf : ∀ v, f v = .v (z v)) (hx : r.IsOk) : ED X Γ e (z (r.get d)) := fun F σ G H s Q q => by
  have k := h E0 (fun _ _ x => takes0 _ _ x) F σ G H s Q
  rw [rsOf_ok d hx, hf] at k
  exact k q
end
end Sd

namespace Sd
open PySem PySem.Spec PyProof.Rows L2
/-! ### None or a thing -/
def encO {τ : Type} (f : τ → D) : Option τ → D
  | none => .non
  | some x => f x
theorem encO_get {τ : Type} {f : τ → D} {v : Option τ} (d : τ) (h : v.isSome = true) : encO f v = f (v.getD d) := by
  cases v with
  | none => cases h
  | some x => rfl
/-- a dict by texts -/
def encKs {τ : Type} (f : τ → D) (kvs : List (List Nat × τ)) : List (Key × D) := kvs.map fun z => (.inr (S z.1), f z.2)
theorem eqT_opt {τ : Type} [DecidableEq τ] {n : Nat} {enc : τ → D} (h : EqT n enc) (hn : ∀ x, isNon (enc x) = false) : EqT n (encO enc) := ⟨fun a => by
  cases a with
  | none => cases n <;> rfl
  | some x => exact h.k x, fun a b => by
  have key : ∀ d : D, isNon d = false → (∃ x, d = enc x) → PyData.eqv .none (pyD d) = false ∧ PyData.eqv (pyD d) .none = false := fun d hd ⟨x, e⟩ => by
    have k := h.k x
    subst e
    generalize enc x = d at hd k
    cases d <;> first | exact ⟨rfl, rfl⟩ | (exfalso; cases hd; done) | (exfalso; cases n <;> cases k)
  cases a with
  | none =>
    cases b with
    | none => rfl
    | some y => exact (key _ (hn y) ⟨y, rfl⟩).1
  | some x =>
    cases b with
    | none => exact (key _ (hn x) ⟨x, rfl⟩).2
    | some y =>
      show eqD (enc x) (enc y) = _
      rw [h.eq]
      by_cases e : x = y
      · subst e
        simp
      · simp [e]⟩
theorem eqT_t1 {α : Type} [DecidableEq α] {n : Nat} {f : α → D} (h : EqT n f) : EqT (n + 1) (fun z : α => D.tup [f z]) := ⟨fun a => by
  show (eqk n (f a) && true) = true
  rw [h.k]
  rfl, fun a b => by
  show (PyData.eqv (pyD (f a)) (pyD (f b)) && true) = _
  rw [show PyData.eqv (pyD (f a)) (pyD (f b)) = _ from h.eq _ _, Bool.and_true]⟩
theorem eqT_t5 {α β γ δ ε : Type} [DecidableEq α] [DecidableEq β] [DecidableEq γ] [DecidableEq δ] [DecidableEq ε] {n : Nat} {f : α → D} {g : β → D} {u : γ → D} {v : δ → D} {w : ε → D} (h : EqT n f) (k : EqT n g) (l : EqT n u) (m : EqT n v) (o : EqT n w) :
    EqT (n + 1) (fun z : α × β × γ × δ × ε => D.tup [f z.1, g z.2.1, u z.2.2.1, v z.2.2.2.1, w z.2.2.2.2]) := ⟨fun a => by
  show (eqk n (f a.1) && (eqk n (g a.2.1) && (eqk n (u a.2.2.1) && (eqk n (v a.2.2.2.1) && (eqk n (w a.2.2.2.2) && true))))) = true
  rw [h.k, k.k, l.k, m.k, o.k]
  rfl, fun a b => by
  show (PyData.eqv (pyD (f a.1)) (pyD (f b.1)) && (PyData.eqv (pyD (g a.2.1)) (pyD (g b.2.1)) && (PyData.eqv (pyD (u a.2.2.1)) (pyD (u b.2.2.1)) && (PyData.eqv (pyD (v a.2.2.2.1)) (pyD (v b.2.2.2.1)) && (PyData.eqv (pyD (w a.2.2.2.2)) (pyD (w b.2.2.2.2)) && true))))) = _
  rw [show PyData.eqv (pyD (f a.1)) (pyD (f b.1)) = _ from h.eq _ _, show PyData.eqv (pyD (g a.2.1)) (pyD (g b.2.1)) = _ from k.eq _ _, show PyData.eqv (pyD (u a.2.2.1)) (pyD (u b.2.2.1)) = _ from l.eq _ _, show PyData.eqv (pyD (v a.2.2.2.1)) (pyD (v b.2.2.2.1)) = _ from m.eq _ _, show PyData.eqv (pyD (w a.2.2.2.2)) (pyD (w b.2.2.2.2)) = _ from o.eq _ _]
  obtain ⟨a1, a2, a3, a4, a5⟩ := a
  obtain ⟨b1, b2, b3, b4, b5⟩ := b
  simp only [Bool.and_true, Prod.mk.injEq, Bool.decide_and]⟩
def isI : D → Bool
  | .int _ => true
  | _ => false
def isS : D → Bool
  | .str _ => true
  | _ => false
def isB : D → Bool
  | .bl _ => true
  | _ => false
theorem asI_ok {d : D} (h : isI d = true) : d = .int (asI d) := by
  cases d <;> first | rfl | cases h
theorem asS_ok {d : D} (h : isS d = true) : d = .str (asS d) := by
  cases d <;> first | rfl | cases h
theorem asB_ok {d : D} (h : isB d = true) : d = .bl (asB d) := by
  cases d <;> first | rfl | cases h
section
variable {X : Cx} {x : D}
theorem od_isNO {τ : Type} {f : τ → D} (h : ∀ x, isNon (f x) = false) (v : Option τ) : OpD X (compareOp .Is) (encO f v) .non (.bl v.isNone) := by
  have e : isNon (encO f v) = v.isNone := by
    cases v with
    | none => rfl
    | some x => exact h x
  rw [← e]
  exact od_isN _
theorem od_notNO {τ : Type} {f : τ → D} (h : ∀ x, isNon (f x) = false) (v : Option τ) : OpD X (compareOp .IsNot) (encO f v) .non (.bl (!v.isNone)) := by
  have e : isNon (encO f v) = v.isNone := by
    cases v with
    | none => rfl
    | some x => exact h x
  rw [← e]
  exact od_notN _
theorem od_isB (i j : Bool) : OpD X (compareOp .Is) (.bl i) (.bl j) (.bl (decide (i = j))) := ⟨_, op_is_bl, fun v w G H e iv iw Q q => by
  cases iv
  cases iw
  exact ⟨_, _, rfl, rfl, q _ G H (.refl e) (.bl _)⟩⟩
theorem od_isNotB (i j : Bool) : OpD X (compareOp .IsNot) (.bl i) (.bl j) (.bl (!decide (i = j))) := ⟨_, op_isnot_bl, fun v w G H e iv iw Q q => by
  cases iv
  cases iw
  exact ⟨_, _, rfl, rfl, q _ G H (.refl e) (.bl _)⟩⟩
theorem od_inS1 {i : List Nat} (h : i.length = 1) (j : List Nat) : OpD X (compareOp .In) (.str i) (.str j) (.bl (decide (i.headD 0 ∈ j))) := by
  match i, h with
  | [c], _ => exact od_inS c j
theorem od_notInS1 {i : List Nat} (h : i.length = 1) (j : List Nat) : OpD X (compareOp .NotIn) (.str i) (.str j) (.bl (!decide (i.headD 0 ∈ j))) := by
  match i, h with
  | [c], _ => exact od_notInS c j
end
section
variable {X : Cx} {E : XK} {Γ : List B} {pos p : Pos} {a b e : Expr} {es : List Expr} {x : D} {ds : List D} {τ : Type} {f : τ → Res} {r : Out τ}
theorem ed_lenTk (i : Int) (hg : Gl X "len") (hm : X.mg "len" = none) (ha : ED X Γ a (.tup ds)) (h : (ds.length : Int) = i) (he : starEach [a] X.env = (false, eval a X.env) :: starEach [] X.env := by exact starEach_ns rfl) (hpl : (backTo pos (starEach [] X.env)).any (·.1) = false := by exact plain_ok rfl) : ED X Γ (.Call (.Name "len" p) [a] [] pos) (.int i) := by
  rw [← h]
  exact ed_lenT hg hm ha he hpl
theorem eo_okR {z : τ → OO} (d : τ) (h : ∀ E, Takes X (fun cls d _ H => E cls d H) → ER X E Γ e (rsOf f r)) (hf : ∀ v, f v = .o (z v)) (hx : r.IsOk) : EO X Γ e (z (r.get d)) := fun F σ G H s Q q => by
  have k := h E0 (fun _ _ x => takes0 _ _ x) F σ G H s Q
  rw [rsOf_ok d hx, hf] at k
  exact k q
/-- an own list, asked for its kind -/
theorem ed_isiL {n : String} {rr : Bool} (hg : Gl X "isinstance") (hm : X.mg "isinstance" = none) (ha : EL X Γ a ds) (hb : ED X Γ b (.ty n)) (hk : kitB "list" n = some rr) (he : starEach [a, b] X.env = (false, eval a X.env) :: starEach [b] X.env := by exact starEach_ns rfl) (he2 : starEach [b] X.env = (false, eval b X.env) :: starEach [] X.env := by exact starEach_ns rfl)
    (hpl : (backTo pos (starEach [b] X.env)).any (·.1) = false := by exact plain_ok rfl) : ED X Γ (.Call (.Name "isinstance" p) [a, b] [] pos) (.bl rr) :=
  ed_of (pe_callB call_isi hg hm (by decide +kernel) (pa_cons pe_w (pa_cons pe_w pa_nil he2) he) (by decide) (by decide) he hpl) fun F σ G H s Q q => ha F σ G H s _ fun pp vs G1 H1 g1 h1 i1 => hb F σ G1 H1 (s.grow g1) _ fun w G2 H2 g2 i2 => by
    cases i2
    exact ⟨_, _, _, _, rr, rfl, .ty n, .base (.lst (g2.h _ _ h1)), kit_ty hk, q _ G2 H2 (g1.trans g2) (.bl rr)⟩
end
end Sd

namespace Sd
open PySem PySem.Spec PyProof.Rows L2
/-! ### what may raise, told with the slots -/
abbrev PsAt (X : Cx) (E : L2.St → XK) : Prop := ∀ σ, PassesAt (L2.CX X.prog X.w) X σ (E σ)
theorem XCm.pass {X : Cx} {E : XK} (h : XCm X E) : PsAt X (fun _ => E) := fun σ => passAt (W := fun cls d _ H => E cls d H) h.takes σ
theorem ps0 (X : Cx) : PsAt X (fun _ => E0) := fun σ => passAt (W := fun cls d _ H => E0 cls d H) (fun _ _ x => takes0 _ _ x) σ
section
variable {X : Cx} {E : L2.St → XK} {Γ : List B} {pos p apos : Pos} {x n m : Str} {lv : Nat} {A : Type} {enc : A → List AK} {pre : A → Prop} {res : A → Res} {e o : Expr} {es : List Expr} {ds : List (Str × D)} {args : List AK} {pl : Sem Bool} {r : Res}
theorem es_of {t : TE} (h : PE X e t) (k : EvRs X.K E Γ t r) : ERs X E Γ e r := fun F σ G H s Q q => ⟨fun pins sh I => h.run pins sh σ H Q I (k F σ G H s Q q)⟩
theorem es_call (a : A) (tk : PsAt X E) (hk : KnX X x lv (spG X.K enc pre res)) (hr : Room lv X.A) (hg : Gl X x) (ha : EA2 X Γ (e :: es) (enc a)) (hp : pre a)
    (hdb : (x == ("__debug__" : Str)) = false := by decide) (he : starEach (e :: es) X.env = (false, eval e X.env) :: starEach es X.env := by exact starEach_ns rfl) (hpl : (backTo pos (starEach es X.env)).any (·.1) = false := by exact plain_ok rfl) : ERs X E Γ (.Call (.Name x p) (e :: es) [] pos) (res a) := by
  obtain ⟨f, fd, ps, h1, h2, h3, h4⟩ := hk.ex
  exact es_of (pe_callS (E := E) h1 hr hg h2 h3 h4 tk pa_w hdb he hpl) fun F σ G H s Q q => ha F σ G H s _ fun vs G1 H1 g1 i1 => ⟨a, G1, g1.s, i1, hp, PostR.grow g1 q⟩
theorem es_call0 (a : A) (tk : PsAt X E) (hk : KnX X x lv (spG X.K enc pre res)) (hr : Room lv X.A) (hg : Gl X x) (ha : enc a = []) (hp : pre a) (hdb : (x == ("__debug__" : Str)) = false := by decide) : ERs X E Γ (.Call (.Name x p) [] [] pos) (res a) := by
  obtain ⟨f, fd, ps, h1, h2, h3, h4⟩ := hk.ex
  intro F σ G H s Q q
  refine ⟨fun pins sh I => ?_⟩
  refine wpAny_Call_Name_kw (ld_glob I hg h2 ?_ hdb)
  exact PySem.W.callWith_K0 I.kIn h3 (run_fnS (us := []) h1 hr h4 (tk σ) I .nil ⟨a, G, s.sub, by rw [ha]; exact .nil, hp, q⟩)
def tMethT (C : Addr) (m : Str) (sp : Sp) (E : L2.St → XK) (ta : TE) (t : TA) : TE := fun σ H Q => ta σ H fun x H1 => ∃ a dx fs, x = .ref a ∧ H1 a = some (.ins C dx fs) ∧ fs.lookup m = none ∧ t σ H1 fun vs H2 => sp (x :: vs) H2 Q (E σ)
theorem pe_methT {C f : Addr} {fd : FuncData} {ps : List Str} {sp : Sp} {ta : TE} {t : TA} (he : PE X o ta) (c : Cls X.K C) (hm : Meth X.K C m f) (F : FnOk X.prog X.w X.K X.mg X.base (L2.CX X.prog X.w) lv f fd ps sp) (hr : Room lv X.A) (hb : Binds X.K fd ps []) (hx : PsAt X E) (ha : PA X (e :: es) t)
    (hst : starEach (e :: es) X.env = (false, eval e X.env) :: starEach es X.env) (hpl : (backTo pos (starEach es X.env)).any (·.1) = false)
    (ht : eval (.Call (.Attribute o m apos) (e :: es) [] pos) X.env = (do
      let ov ← eval o X.env
      standAt apos.atName
      let (f, first) ← holding [ov] (getMethod ov m pl)
      callWith pos f first (backTo pos (starEach (e :: es) X.env)) (backToKw pos (keywordEach [] X.env)))) : PE X (.Call (.Attribute o m apos) (e :: es) [] pos) (tMethT C m sp E ta t) := by
  refine ⟨fun pins s σ H Q I h => PySem.W.methodCall_KW (pl := pl) (thn (he.run pins s σ H _ I h) fun u s1 ⟨x, H1, I1, rx, a, dx, fs, ex, ea, l, q⟩ => ?_) ht⟩
  subst ex
  obtain rfl : u = Value.ref a := rx
  exact getmeth_ok I1 ea c hm l (PySem.W.callWith_K (first := [.ref a]) (h₀ := X.base) I.ok.mod.kin hm.kp (thn (ha.run pos pins s1 σ H1 _ I1 q) fun us s2 ⟨vs, H2, I2, r, q2⟩ => ⟨I2.kIn, run_fnS (us := .ref a :: us) (vs := .ref a :: vs) F hr hb (hx σ) I2 (.cons rfl r) q2⟩) hst hpl)
theorem pe_methT0 {C f : Addr} {fd : FuncData} {ps : List Str} {sp : Sp} {ta : TE} (he : PE X o ta) (c : Cls X.K C) (hm : Meth X.K C m f) (F : FnOk X.prog X.w X.K X.mg X.base (L2.CX X.prog X.w) lv f fd ps sp) (hr : Room lv X.A) (hb : Binds X.K fd ps []) (hx : PsAt X E)
    (ht : eval (.Call (.Attribute o m apos) [] [] pos) X.env = (do
      let ov ← eval o X.env
      standAt apos.atName
      let (f, first) ← holding [ov] (getMethod ov m pl)
      callWith pos f first (backTo pos (starEach [] X.env)) (backToKw pos (keywordEach [] X.env)))) : PE X (.Call (.Attribute o m apos) [] [] pos) (tMethT C m sp E ta tNil) := by
  refine ⟨fun pins s σ H Q I h => PySem.W.methodCall_KW (pl := pl) (thn (he.run pins s σ H _ I h) fun u s1 ⟨x, H1, I1, rx, a, dx, fs, ex, ea, l, q⟩ => ?_) ht⟩
  subst ex
  obtain rfl : u = Value.ref a := rx
  exact getmeth_ok I1 ea c hm l (PySem.W.callWith_K0 (first := [.ref a]) I1.kIn hm.kp (run_fnS (us := [.ref a]) (vs := [.ref a]) F hr hb (hx σ) I1 (.cons rfl .nil) q))
theorem es_meth (a : A) (tk : PsAt X E) (hk : MethX X n m lv (spG X.K enc pre res)) (hr : Room lv X.A) (he : ED X Γ o (.ins n ds)) (ha : EA2 X Γ (e :: es) args) (henc : enc a = .d (.ins n ds) :: args) (hp : pre a) (hl : ds.lookup m = none)
    (ht : eval (.Call (.Attribute o m apos) (e :: es) [] pos) X.env = (do
      let ov ← eval o X.env
      standAt apos.atName
      let (f, first) ← holding [ov] (getMethod ov m pl)
      callWith pos f first (backTo pos (starEach (e :: es) X.env)) (backToKw pos (keywordEach [] X.env))) := by rfl)
    (hst : starEach (e :: es) X.env = (false, eval e X.env) :: starEach es X.env := by exact starEach_ns rfl) (hpl : (backTo pos (starEach es X.env)).any (·.1) = false := by exact plain_ok rfl) : ERs X E Γ (.Call (.Attribute o m apos) (e :: es) [] pos) (res a) := by
  obtain ⟨C, f, fd, ps, hC, hM, hF, hB⟩ := hk.ex
  refine es_of (pe_methT (E := E) pe_w hC.cl hM hF hr hB tk pa_w hst hpl ht) fun F σ G H s Q q => he F σ G H s _ fun v G1 H1 g1 i1 => ?_
  have i0 := i1
  cases i1 with
  | @ins b C' dx _ xs _ h0 h1 h2 =>
    have e := hC.eq h0
    subst e
    exact ⟨b, dx, xs, rfl, g1.s _ _ h1, h2.no hl, ha F σ G1 H1 (s.grow g1) _ fun vs G2 H2 g2 i2 => ⟨a, G2, g2.s, by rw [henc]; exact .d (i0.up g2.g) i2, hp, PostR.grow (g1.trans g2) q⟩⟩
theorem es_meth0 (a : A) (tk : PsAt X E) (hk : MethX X n m lv (spG X.K enc pre res)) (hr : Room lv X.A) (he : ED X Γ o (.ins n ds)) (henc : enc a = [.d (.ins n ds)]) (hp : pre a) (hl : ds.lookup m = none)
    (ht : eval (.Call (.Attribute o m apos) [] [] pos) X.env = (do
      let ov ← eval o X.env
      standAt apos.atName
      let (f, first) ← holding [ov] (getMethod ov m pl)
      callWith pos f first (backTo pos (starEach [] X.env)) (backToKw pos (keywordEach [] X.env))) := by rfl) : ERs X E Γ (.Call (.Attribute o m apos) [] [] pos) (res a) := by
  obtain ⟨C, f, fd, ps, hC, hM, hF, hB⟩ := hk.ex
  refine es_of (pe_methT0 (E := E) pe_w hC.cl hM hF hr hB tk ht) fun F σ G H s Q q => he F σ G H s _ fun v G1 H1 g1 i1 => ?_
  have i0 := i1
  cases i1 with
  | @ins b C' dx _ xs _ h0 h1 h2 =>
    have e := hC.eq h0
    subst e
    exact ⟨b, dx, xs, rfl, g1.s _ _ h1, h2.no hl, a, G1, g1.s, by rw [henc]; exact .d i0 .nil, hp, PostR.grow g1 q⟩
end
section
variable {X : Cx} {Γ : List B} {e : Expr} {τ : Type} {f : τ → Res} {r : Out τ}
/-- what comes to a value for certain -/
theorem ed_okS {z : τ → D} (d : τ) (h : ∀ E, PsAt X E → ERs X E Γ e (rsOf f r)) (hf : ∀ v, f v = .v (z v)) (hx : r.IsOk) : ED X Γ e (z (r.get d)) := fun F σ G H s Q q => by
  have k := h (fun _ => E0) (ps0 X) F σ G H s Q
  rw [rsOf_ok d hx, hf] at k
  exact k q
theorem eo_okS {z : τ → OO} (d : τ) (h : ∀ E, PsAt X E → ERs X E Γ e (rsOf f r)) (hf : ∀ v, f v = .o (z v)) (hx : r.IsOk) : EO X Γ e (z (r.get d)) := fun F σ G H s Q q => by
  have k := h (fun _ => E0) (ps0 X) F σ G H s Q
  rw [rsOf_ok d hx, hf] at k
  exact k q
end
/-! ### try: one statement, except X: suite -/
def tryO {τ S T R : Type} (r : Out τ) (m : Str → Option Bool) (k1 : τ → Co S T R) (k2 : Exn → Co S T R) : Co S T R := match r with
  | .ok v => k1 v
  | .err e => match m e.cls with
    | some true => k2 e
    | some false => .ret (.err e)
    | none => .ret .stk
  | .stk => .ret .stk
/-- a suite that raises is not told of -/
def Co.ne {S T R : Type} : Co S T R → Co S T R
  | .ret (.err _) => .ret .stk
  | c => c
/-- what a def hands back is no exception -/
def NoX {R : Type} (f : R → Res) : Prop := ∀ (v : R) (K : PySem.W.Frag) (F G0 : Hp) (E E' : XK) (rt : VK), PostR K F G0 E rt (f v) → PostR K F G0 E' rt (f v)
theorem post_ne {S T R : Type} {K : PySem.W.Frag} {F G0 G : Hp} {E : XK} {D : Ends} {Γs : S → List B} {Γb : T → List B} {f : R → Res} {k : Co S T R} (hf : NoX f) (h : PostC K F G0 G E D Γs Γb (k.ne.ctl f)) : PostC K F G0 G E0 D Γs Γb (k.ctl f) := by
  cases k with
  | go s => exact h
  | brk b => exact h
  | ret o =>
    cases o with
    | ok v =>
      have h' : PostR K F G0 E D.rt (f v) := h
      show PostR K F G0 E0 D.rt (f v)
      exact hf v _ _ _ _ _ _ h'
    | err e => exact (show False from h).elim
    | stk => exact h
/-- what an except clause says of the classes of the table m -/
structure ExH (K : PySem.W.Frag) (mg : Str → Option Value) (x : Str) (m : Str → Option Bool) : Prop where
  ex : ∃ c, mg x = some c ∧ ∀ n b cls, m n = some b → PySem.W.nsIn K mainGlobals n = some (some cls) → PySem.W.exmOne K cls c = some b
section
variable {X : Cx} {E : XK} {Γ : List B} {S T R : Type} {Γs : S → List B} {Γb : T → List B} {f : R → Res} {rest : List Stmt} {pos np pos' bpos : Pos} {lv : Nat} {N : List Str} {sc : Scope} {hx y : Str} {py : Pos} {e : Expr} {suite : List Stmt} {b₀ : Stmt} {m : Str → Option Bool}
theorem XOk.tr (h : XOk lv N sc X) (pn : List (Addr × Obj)) (xe : Value → Shared → Prop) : XOk lv N sc (X.tr pn xe) := ⟨h.room, h.fn, h.hN, h.hsc, h.nd, h.kd, h.stk, h.frm⟩
theorem XOk.su (h : XOk lv N sc X) (a : Addr) (pn : List (Addr × Obj)) : XOk lv N sc (X.suite a pn) := ⟨⟨h.room.dp, h.room.un⟩, h.fn, h.hN, h.hsc, h.nd, h.kd, h.stk, h.frm⟩
theorem c_tryA {S' τ : Type} {Γj : S' → List B} (i : Nat) (enc : τ → D) {r : Out τ} {s1 : τ → S'} {k2 : Exn → Co S' T R} {kr : S' → Co S T R} (hM : XCm X E) (hX : XOk lv N sc X) (hn : N[i]? = some y) (hl : Loc sc y) (hc : ExH X.K X.mg hx m) (hg : Gl X hx)
    (he : ∀ (W : WX) pn xe, PsAt (X.tr pn xe) (L2.WE W) → ERs (X.tr pn xe) (L2.WE W) Γ e (rsOf (fun v => .v (enc v)) r)) (h1 : ∀ v, Wk (Γ.set i (.d (enc v))) (Γj (s1 v)))
    (h2 : ∀ x a oe pn, XOk lv N sc (X.suite a ((a, oe) :: pn)) → BC (X.suite a ((a, oe) :: pn)) E0 Γ (b₀ :: suite) Γj Γb f (k2 x)) (hr : ∀ s', BC X E (Γj s') rest Γs Γb f (kr s')) (hf : NoX f := by exact fun _ _ _ _ _ _ _ h => h)
    (hs : ∀ pn xe, swapsWith e (some (.Name y py)) bpos.line (X.tr pn xe).env = pure false := by exact fun _ _ => sw_ns rfl) (hdb : (hx == ("__debug__" : Str)) = false := by decide) :
    BC X E Γ (.Try [.Assign [.Name y py] e bpos] [.ExceptHandler (some (.Name hx np)) none (b₀ :: suite) pos'] [] [] pos :: rest) Γs Γb f ((tryO r m (fun v => .go (s1 v)) fun x => (k2 x).ne).bind kr) := by
  show BK _ _ _ _ _ _ (Co.ctl f ((tryO r m (fun v => .go (s1 v)) fun x => (k2 x).ne).bind kr))
  rw [ctl_bind]
  refine b_seq (Γj := Γj) (fun F G0 σ G H D s gr post => ?_) fun s' _ => hr s'
  obtain ⟨c, h3, h4⟩ := hc.ex
  refine ⟨_, ps_try_only (c := c) (ts := fun a cls d D σ H => ∀ oe pn, wS (X.suite a ((a, oe) :: pn)) (b₀ :: suite) D σ H) (tb := fun W D σ H => ∀ pn xe, Takes (X.tr pn xe) W → wS (X.tr pn xe) [.Assign [.Name y py] e bpos] D σ H) hX.stk hX.frm ⟨hg, hdb, .inl h3⟩ hM.takes
    (fun W pn xe tk _ => ⟨fun pins sh σ H D I h => (h pn xe tk).run pins sh I⟩) (fun a oe cls d pn _ _ => ⟨fun pins sh σ H D I h => (h oe pn).run pins sh I⟩), ?_⟩
  intro pn xe tk
  have hX' := hX.tr pn xe
  refine w_cons (ps_set hX'.nd (hX'.nm hn) (hX'.lc hl) pe_w (hs pn xe) (.inl (hX'.fn y))) (he _ pn xe (fun σ => passAt tk σ) F σ G H s _ ?_)
  cases r with
  | stk => exact (show False from post).elim
  | ok v =>
    have p : ∀ σ' G' H', Ex G G' → Stt X.K F (Γj (s1 v)) σ' G' H' → Grow G0 F G' H' → D.nx σ' H' := post
    exact fun w G1 H1 g1 i1 => w_nil (p _ G1 H1 g1.g (((s.grow g1).set i i1).wk (h1 v)) (gr.trans g1))
  | err x =>
    intro cls d G1 H1 g1 hi
    have post' : PostC X.K F G0 G E D Γj Γb (Co.ctl f (match m x.cls with | some true => (k2 x).ne | some false => .ret (.err x) | none => .ret .stk)) := post
    cases hm : m x.cls with
    | none =>
      rw [hm] at post'
      exact (show False from post').elim
    | some b =>
      rw [hm] at post'
      refine ⟨b, h4 _ _ _ hm hi.1, fun hb a na oe pn2 => ?_, fun hb => ?_⟩
      · subst hb
        exact h2 x a oe pn2 (hX.su a _) F G0 σ G1 H1 D (s.grow g1) (gr.trans g1) (PostC.up (post_ne hf post') g1.g)
      · subst hb
        exact (show PostR X.K F G0 E D.rt (.x x) from post') cls d G1 H1 (gr.trans g1) hi
/-- try: e; except X: suite -/
theorem c_tryE {S' τ : Type} {Γj : S' → List B} {res : τ → Res} {r : Out τ} {s1 : S'} {k2 : Exn → Co S' T R} {kr : S' → Co S T R} (hM : XCm X E) (hX : XOk lv N sc X) (hc : ExH X.K X.mg hx m) (hg : Gl X hx)
    (he : ∀ (W : WX) pn xe, PsAt (X.tr pn xe) (L2.WE W) → ERs (X.tr pn xe) (L2.WE W) Γ e (rsOf res r)) (h1 : Wk Γ (Γj s1))
    (h2 : ∀ x a oe pn, XOk lv N sc (X.suite a ((a, oe) :: pn)) → BC (X.suite a ((a, oe) :: pn)) E0 Γ (b₀ :: suite) Γj Γb f (k2 x)) (hr : ∀ s', BC X E (Γj s') rest Γs Γb f (kr s')) (hf : NoX f := by exact fun _ _ _ _ _ _ _ h => h)
    (hres : ∀ v, (∃ z, res v = .v z) ∨ ∃ z, res v = .o z := by exact fun _ => by first | exact .inl ⟨_, rfl⟩ | exact .inr ⟨_, rfl⟩)
    (hs : ∀ pn xe, swapsWith e none bpos.line (X.tr pn xe).env = pure false := by exact fun _ _ => sw_ns rfl) (hdb : (hx == ("__debug__" : Str)) = false := by decide) :
    BC X E Γ (.Try [.Expr e bpos] [.ExceptHandler (some (.Name hx np)) none (b₀ :: suite) pos'] [] [] pos :: rest) Γs Γb f ((tryO r m (fun _ => .go s1) fun x => (k2 x).ne).bind kr) := by
  show BK _ _ _ _ _ _ (Co.ctl f ((tryO r m (fun _ => .go s1) fun x => (k2 x).ne).bind kr))
  rw [ctl_bind]
  refine b_seq (Γj := Γj) (fun F G0 σ G H D s gr post => ?_) fun s' _ => hr s'
  obtain ⟨c, h3, h4⟩ := hc.ex
  refine ⟨_, ps_try_only (c := c) (ts := fun a cls d D σ H => ∀ oe pn, wS (X.suite a ((a, oe) :: pn)) (b₀ :: suite) D σ H) (tb := fun W D σ H => ∀ pn xe, Takes (X.tr pn xe) W → wS (X.tr pn xe) [.Expr e bpos] D σ H) hX.stk hX.frm ⟨hg, hdb, .inl h3⟩ hM.takes
    (fun W pn xe tk _ => ⟨fun pins sh σ H D I h => (h pn xe tk).run pins sh I⟩) (fun a oe cls d pn _ _ => ⟨fun pins sh σ H D I h => (h oe pn).run pins sh I⟩), ?_⟩
  intro pn xe tk
  have hX' := hX.tr pn xe
  refine w_cons (ps_expr pe_w (hs pn xe)) (he _ pn xe (fun σ => passAt tk σ) F σ G H s _ ?_)
  cases r with
  | stk => exact (show False from post).elim
  | ok v =>
    have p : ∀ σ' G' H', Ex G G' → Stt X.K F (Γj s1) σ' G' H' → Grow G0 F G' H' → D.nx σ' H' := post
    show PostR _ _ _ _ _ (res v)
    rcases hres v with ⟨z, e⟩ | ⟨z, e⟩
    · rw [e]
      exact fun w G1 H1 g1 i1 => w_nil (p _ G1 H1 g1.g ((s.grow g1).wk h1) (gr.trans g1))
    · rw [e]
      exact fun q u G1 H1 g1 _ _ _ _ => w_nil (p _ G1 H1 g1.g ((s.grow g1).wk h1) (gr.trans g1))
  | err x =>
    intro cls d G1 H1 g1 hi
    have post' : PostC X.K F G0 G E D Γj Γb (Co.ctl f (match m x.cls with | some true => (k2 x).ne | some false => .ret (.err x) | none => .ret .stk)) := post
    cases hm : m x.cls with
    | none =>
      rw [hm] at post'
      exact (show False from post').elim
    | some b =>
      rw [hm] at post'
      refine ⟨b, h4 _ _ _ hm hi.1, fun hb a na oe pn2 => ?_, fun hb => ?_⟩
      · subst hb
        exact h2 x a oe pn2 (hX.su a _) F G0 σ G1 H1 D (s.grow g1) (gr.trans g1) (PostC.up (post_ne hf post') g1.g)
      · subst hb
        exact (show PostR X.K F G0 E D.rt (.x x) from post') cls d G1 H1 (gr.trans g1) hi
end
/-! ### C(e) where e may raise -/
section
variable {X : Cx} {E : L2.St → XK} {Γ : List B} {pos p : Pos} {n : Str} {lv : Nat} {A τ : Type} {enc : A → List AK} {pre : A → Prop} {flds : A → List (Str × D)} {e : Expr} {f : τ → Res} {r : Out τ}
theorem es_make1 (a : τ → A) (hk : MkX X n lv (spJ X.K n enc pre flds)) (hr : Room (lv + 1) X.A) (hg : Gl X n) (he : ERs X E Γ e (rsOf f r)) (hp : ∀ v, pre (a v)) (hf : ∀ v, (∃ z, f v = .v z ∧ enc (a v) = [.d z]) ∨ ∃ ds, f v = .o (.lst ds) ∧ enc (a v) = [.l ds])
    (hdb : (n == ("__debug__" : Str)) = false := by decide) (hst : starEach [e] X.env = (false, eval e X.env) :: starEach [] X.env := by exact starEach_ns rfl) (hpl : (backTo pos (starEach [] X.env)).any (·.1) = false := by exact plain_ok rfl) :
    ERs X E Γ (.Call (.Name n p) [e] [] pos) (rsOf (fun v => .v (.ins n (flds (a v)))) r) := by
  obtain ⟨C, fa, fd, ps, h1, hC, hM, hF, hB⟩ := hk.ex
  refine es_of (pe_make (E := E0) hM hF hr hg h1 hB .nil passL pa_w hdb hst hpl) fun F σ G H s Q q => ?_
  have wa : ∀ Q2 : List V → Hp → Prop, wE X e σ H (fun v H1 => Q2 [v] H1) → wA X [e] σ H Q2 := fun Q2 h => ⟨fun pos pins sh I => (pa_cons pe_w pa_nil hst).run pos pins sh σ H Q2 I h⟩
  refine wa _ ?_
  refine he F σ G H s _ ?_
  cases r with
  | stk => exact (show False from q).elim
  | err x => exact q
  | ok v =>
    have q' : ∀ w G' H', Grow G H G' H' → Is X.K G' w (.ins n (flds (a v))) → Q w H' := q
    -- the making, from the argument's place on
    have key : ∀ (u : V) G1 H1, Grow G H G1 H1 → (∀ b o, H1 b = some o → True) → IsAs X.K G1 H1 [u] (enc (a v)) → ∀ x dx, H1 x = none → H1 dx = none → dx ≠ x →
        spJ X.K n enc pre flds (.ref x :: ([u] ++ [])) (upd (upd H1 dx (.own x)) x (.ins C dx [])) (fun v H2 => v = .non ∧ Q (.ref x) H2) E0 := fun u G1 H1 g1 _ i1 x dx hx hdx hne => by
      rw [List.append_nil]
      have gx : G1 x = none := Evl.fresh_back g1.s hx
      have gdx : G1 dx = none := Evl.fresh_back g1.s hdx
      have up : ∀ b o, H1 b = some o → (upd (upd H1 dx (.own x)) x (.ins C dx [])) b = some o := fun b o eb => by
        rw [upd_ne (ne_of_none eb hx), upd_ne (ne_of_none eb hdx)]
        exact eb
      have ex1 : Ex G1 (upd (upd H1 dx (.own x)) x (.ins C dx [])) := fun b o eb => up b o (g1.s b o eb)
      have i2 : IsAs X.K G1 (upd (upd H1 dx (.own x)) x (.ins C dx [])) [u] (enc (a v)) := by
        generalize [u] = us at i1 ⊢
        generalize enc (a v) = as at i1
        induction i1 with
        | nil => exact .nil
        | d h _ ih => exact .d h ih
        | l h1 h2 _ ih => exact .l (up _ _ h1) h2 ih
      refine ⟨x, dx, C, [u], a v, G1, rfl, hC, upd_same, gx, ex1, i2, hp v, fun G' H' xs g hx' gx' hi => ⟨rfl, ?_⟩⟩
      have hH : Ex H1 H' := fun b o eb => by
        have hb : b ≠ x := ne_of_none eb hx
        have hb2 : b ≠ dx := ne_of_none eb hdx
        have z := g.h b o (by rw [dl_ne hb, upd_ne hb, upd_ne hb2]; exact eb)
        rw [dl_ne hb] at z
        exact z
      have gs : Ex G' H' := fun b o eb => by
        have hb : b ≠ x := ne_of_none eb gx'
        have z := g.s b o eb
        rw [dl_ne hb] at z
        exact z
      have g2 : Grow G1 H1 G' H' := ⟨g.g, hH, gs, fun b o eb mb => by
        have hb : b ≠ x := ne_of_none eb hx
        have hb2 : b ≠ dx := ne_of_none eb hdx
        exact g.f b o (by rw [dl_ne hb, upd_ne hb, upd_ne hb2]; exact eb) mb⟩
      exact q' (.ref x) (upd G' x (.ins C dx xs)) H' (g1.trans (g2.frz hx hx' gx')) (.ins hC.nm upd_same (IsFs.mono (Evl.Ex.new gx') _ _ hi))
    show PostR _ _ _ _ _ (f v)
    rcases hf v with ⟨z, e1, e2⟩ | ⟨ds, e1, e2⟩
    · rw [e1]
      exact fun u G1 H1 g1 i1 => key u G1 H1 g1 (fun _ _ _ => trivial) (by rw [e2]; exact .d i1 .nil)
    · rw [e1]
      intro p u G1 H1 g1 hp1 hn1 hn2 ho
      obtain ⟨vs, rfl, ha⟩ := ho.lst
      exact key (.ref p) G1 H1 g1 (fun _ _ _ => trivial) (by rw [e2]; exact .l hp1 ha .nil)
def mapO {α β : Type} (g : α → β) : Out α → Out β
  | .ok v => .ok (g v)
  | .err e => .err e
  | .stk => .stk
theorem es_makeM {β : Type} {F : β → Res} {g : τ → β} (a : τ → A) (hk : MkX X n lv (spJ X.K n enc pre flds)) (hr : Room (lv + 1) X.A) (hg : Gl X n) (he : ERs X E Γ e (rsOf f r)) (hp : ∀ v, pre (a v)) (hf : ∀ v, (∃ z, f v = .v z ∧ enc (a v) = [.d z]) ∨ ∃ ds, f v = .o (.lst ds) ∧ enc (a v) = [.l ds])
    (hF : ∀ v, F (g v) = .v (.ins n (flds (a v))) := by exact fun _ => rfl) (hdb : (n == ("__debug__" : Str)) = false := by decide) (hst : starEach [e] X.env = (false, eval e X.env) :: starEach [] X.env := by exact starEach_ns rfl) (hpl : (backTo pos (starEach [] X.env)).any (·.1) = false := by exact plain_ok rfl) :
    ERs X E Γ (.Call (.Name n p) [e] [] pos) (rsOf F (mapO g r)) := by
  have k := es_make1 (pos := pos) (p := p) a hk hr hg he hp hf hdb hst hpl
  have q : rsOf (fun v => .v (.ins n (flds (a v)))) r = rsOf F (mapO g r) := by
    cases r with
    | ok v => exact (hF v).symm
    | err e => rfl
    | stk => rfl
  rw [q] at k
  exact k
end
end Sd

namespace Sd
open PySem PySem.Spec PyProof.Rows L2
/-! ### exceptions with fields: their __init__ -/
/-- an own class of exceptions by its name -/
structure ClsX (K : PySem.W.Frag) (n : Str) (C : Addr) : Prop where
  nm : PySem.W.nsIn K mainGlobals n = some (some (.ref C))
  ox : OexC K C
theorem ClsX.eq {K : PySem.W.Frag} {n : Str} {C C' : Addr} (h : ClsX K n C) (e : PySem.W.nsIn K mainGlobals n = some (some (.ref C'))) : C' = C := by
  rw [h.nm] at e
  cases e
  rfl
/-- the class's instances have no attribute of that name by the class -/
structure FldX (K : PySem.W.Frag) (n f : Str) : Prop where
  ex : ∃ C, ClsX K n C ∧ PySem.W.findIn K (.ref C) f = some none
theorem FldX.no {K : PySem.W.Frag} {n f : Str} {C : Addr} (h : FldX K n f) (hC : ClsX K n C) : PySem.W.findIn K (.ref C) f = some none := by
  obtain ⟨C', h1, h2⟩ := h.ex
  have e := hC.eq h1.nm
  subst e
  exact h2
/-- the class above, whose __init__ is called: ValueError's -/
structure InitB (K : PySem.W.Frag) (mg : Str → Option Value) (b : Str) : Prop where
  ex : ∃ (C : Addr) (mc : Value), mg b = some (.ref C) ∧ PySem.W.readsIn K C mc = true ∧ PySem.W.specialIn K (.ref C) "__getattribute__" = some (some (.builtin "type.__getattribute__")) ∧ PySem.W.findCls K (.ref C) mc "__init__" = some (.val (.builtin "ValueError.__init__"))
def xl (H : Hp) (x : Addr) (d : Option Addr) : Hp := fun b => if b = x ∨ d = some b then none else H b
theorem xl_ne {H : Hp} {x b : Addr} {d : Option Addr} (h : b ≠ x) (h' : d ≠ some b) : xl H x d b = H b := if_neg fun z => z.elim h h'
theorem xl_x {H : Hp} {x : Addr} {d : Option Addr} : xl H x d x = none := if_pos (.inl rfl)
theorem xl_d {H : Hp} {x b : Addr} : xl H x (some b) b = none := if_pos (.inr rfl)
/-- __init__ of the exception at x, before it has its dict -/
def XI0 (X : Cx) (x C : Addr) (Γ : List B) (sts : List Stmt) (fs' : List (Str × D)) : Prop :=
  ∀ F σ G H (D : Ends), Stt X.K F Γ σ G H → σ[0]? = some (some (.ref x)) → F x = none → H x = some (exo x C none) → G x = none → (∀ (j : Nat) (o : OO) (pa : Option Addr), Γ[j]? ≠ some (B.own o pa)) →
    (∀ G' H' p vs, Grow G (xl H x none) G' (xl H' x (some p)) → H p = none → H' x = some (exo x C (some p)) → H' p = some (exd p vs) → p ≠ x → G' x = none → G' p = none → IsFs X.K G' vs fs' → D.nx σ H') → wS X sts D σ H
/-- .. its dict at p -/
def XI1 (X : Cx) (x C : Addr) (Γ : List B) (sts : List Stmt) (fs fs' : List (Str × D)) : Prop :=
  ∀ F σ G H (D : Ends) p vs, Stt X.K F Γ σ G H → σ[0]? = some (some (.ref x)) → F x = none → F p = none → H x = some (exo x C (some p)) → H p = some (exd p vs) → p ≠ x → G x = none → G p = none → IsFs X.K G vs fs → (∀ (j : Nat) (o : OO) (pa : Option Addr), Γ[j]? ≠ some (B.own o pa)) →
    (∀ G' H' vs', Grow G (xl H x (some p)) G' (xl H' x (some p)) → H' x = some (exo x C (some p)) → H' p = some (exd p vs') → G' x = none → G' p = none → IsFs X.K G' vs' fs' → D.nx σ H') → wS X sts D σ H
section
variable {X : Cx} {E : XK} {x C : Addr} {Γ : List B} {rest : List Stmt} {fs fs' : List (Str × D)} {v : D} {e e1 : Expr} {pos py apos p1 p2 pos2 : Pos} {lv : Nat} {N : List Str} {sc : Scope} {y f b : Str}
theorem xl_sub {G H : Hp} {d : Option Addr} (s : Ex G H) (g : G x = none) (gd : ∀ p, d = some p → G p = none) : Ex G (xl H x d) := fun b o e => by
  rw [xl_ne (ne_of_none e g) fun z => absurd e (by rw [gd b z]; exact fun w => nomatch w)]
  exact s b o e
theorem grow_xl {G H G' H' : Hp} {d : Option Addr} (g : Grow G H G' H') (gx : G' x = none) (gd : ∀ p, d = some p → G' p = none) : Grow G (xl H x d) G' (xl H' x d) := ⟨g.g, fun b o e => by
  by_cases hb : b = x
  · rw [hb, xl_x] at e
    cases e
  · by_cases hd : d = some b
    · rw [hd, xl_d] at e
      cases e
    · rw [xl_ne hb hd] at e ⊢
      exact g.h b o e, xl_sub g.s gx gd, fun b o e n => by
  by_cases hb : b = x
  · rw [hb]
    exact gx
  · by_cases hd : d = some b
    · exact gd b hd
    · rw [xl_ne hb hd] at e
      exact g.f b o e n⟩
theorem xi1_nil : XI1 X x C Γ [] fs fs := fun F σ G H D p vs s h0 fx fp hx hp ne gx gp hi hno k => w_nil (k G H vs (Grow.refl (xl_sub s.sub gx fun q e => by
  cases e
  exact gp)) hx hp gx gp hi)
theorem xi1_fld (hX : XOk lv N sc X) (hn : N[0]? = some y) (hl : Vis sc y) (hT : OexC X.K C) (hno' : PySem.W.findIn X.K (.ref C) f = some none) (he : ED X Γ e v) (hz : fs.length ≤ 900) (hr : XI1 X x C Γ rest ((f, v) :: fs) fs')
    (hs : swapsWith e (some (.Attribute (.Name y py) f apos)) pos.line X.env = pure false := by exact sw_ns rfl) (hd : (y == ("__debug__" : Str)) = false := by decide) (hcd : (y == ("__classdict__" : Str)) = false := by decide) :
    XI1 X x C Γ (.Assign [.Attribute (.Name y py) f apos] e pos :: rest) fs fs' := fun F σ G H D p vs s h0 fx fp hx hp ne gx gp hi hno k => by
  refine w_cons (ps_ost (pe_var (hX.nm hn) (hX.vs hl) hd hcd) pe_w hs) (he F σ G H s _ fun w G1 H1 g1 i1 => ⟨_, h0, x, C, rfl, hT, hno', .inr ?_⟩)
  have hx1 := g1.h _ _ hx
  have hp1 := g1.h _ _ hp
  have gx1 := g1.f x _ hx gx
  have gp1 := g1.f p _ hp gp
  have hi1 : IsFs X.K G1 vs fs := IsFs.mono g1.g fs vs hi
  have s1 := s.grow g1
  refine ⟨p, vs, hx1, hp1, by rw [hi.len]; exact hz, ?_⟩
  have nb : ∀ {q : Addr} {ws : List V}, F q = some (.lst ws) → q ≠ p := fun {q ws} h z => by
    rw [z, fp] at h
    cases h
  have s2 : Stt X.K F Γ σ G1 (upd H1 p (exd p ((f, w) :: vs))) := ⟨s1.len, fun b o e => by
    rw [upd_ne (ne_of_none e gp1)]
    exact s1.sub b o e, s1.dat, fun i o pa h => absurd h (hno i o pa), s1.sep, fun i xs h => let ⟨q, ws, k1, k2, k3, k4⟩ := s1.bor i xs h; ⟨q, ws, k1, by rw [upd_ne (nb k3)]; exact k2, k3, k4⟩, s1.exc, s1.tre.carry (fun _ _ e => ⟨e, rfl⟩) (fun j y p' qs e a => a.updH (a.ne hp1 (fun _ e => nomatch e) fun _ e => nomatch e)) fun i x p qs e a => s1.tre.sep i x p qs e a⟩
  refine hr F σ G1 _ D p _ s2 h0 fx fp (by rw [upd_ne (Ne.symm ne)]; exact hx1) upd_same ne gx1 gp1 (.cons i1 hi1) hno fun G' H' vs' g' hx' hp' gx' gp' hi' => k G' H' vs' (Grow.trans (grow_xl g1 gx1 fun q e => by
    cases e
    exact gp1) ?_) hx' hp' gx' gp' hi'
  have e2 : xl (upd H1 p (exd p ((f, w) :: vs))) x (some p) = xl H1 x (some p) := by
    funext b
    by_cases hb : b = x
    · rw [hb, xl_x, xl_x]
    · by_cases hd : p = b
      · subst hd
        rw [xl_d, xl_d]
      · rw [xl_ne hb (fun z => hd (Option.some.inj z)), xl_ne hb (fun z => hd (Option.some.inj z)), upd_ne (Ne.symm hd)]
  rw [e2] at g'
  exact g'
/-- the first field -/
theorem xi0_fld (hX : XOk lv N sc X) (hn : N[0]? = some y) (hl : Vis sc y) (hT : OexC X.K C) (hno' : PySem.W.findIn X.K (.ref C) f = some none) (he : ED X Γ e v) (hr : XI1 X x C Γ rest [(f, v)] fs')
    (hs : swapsWith e (some (.Attribute (.Name y py) f apos)) pos.line X.env = pure false := by exact sw_ns rfl) (hd : (y == ("__debug__" : Str)) = false := by decide) (hcd : (y == ("__classdict__" : Str)) = false := by decide) :
    XI0 X x C Γ (.Assign [.Attribute (.Name y py) f apos] e pos :: rest) fs' := fun F σ G H D s h0 fx hx gx hno k => by
  refine w_cons (ps_ost (pe_var (hX.nm hn) (hX.vs hl) hd hcd) pe_w hs) (he F σ G H s _ fun w G1 H1 g1 i1 => ⟨_, h0, x, C, rfl, hT, hno', .inl ?_⟩)
  have hx1 := g1.h _ _ hx
  have gx1 := g1.f x _ hx gx
  have s1 := s.grow g1
  refine ⟨hx1, fun p hp ne => ?_⟩
  have gp1 : G1 p = none := Evl.fresh_back g1.s hp
  have hpH : H p = none := Evl.fresh_back g1.h hp
  have fp : F p = none → True := fun _ => trivial
  have hsub : Ex G1 (upd (upd H1 p (exd p [(f, w)])) x (exo x C (some p))) := fun b o e => by
    rw [upd_ne (ne_of_none e gx1), upd_ne (ne_of_none e gp1)]
    exact s1.sub b o e
  have fl : ∀ {q : Addr} {ws : List V}, F q = some (.lst ws) → H1 q = some (.lst ws) → upd (upd H1 p (exd p [(f, w)])) x (exo x C (some p)) q = some (.lst ws) := fun {q ws} h h' => by
    have n1 : q ≠ x := fun z => by
      rw [z, fx] at h
      cases h
    rw [upd_ne n1, upd_ne (ne_of_none h' hp)]
    exact h'
  have s2 : Stt X.K (dl F p) Γ σ G1 (upd (upd H1 p (exd p [(f, w)])) x (exo x C (some p))) := ⟨s1.len, hsub, s1.dat, fun i o pa h => absurd h (hno i o pa), s1.sep, fun i xs h => by
    obtain ⟨q, ws, k1, k2, k3, k4⟩ := s1.bor i xs h
    exact ⟨q, ws, k1, fl k3 k2, by rw [dl_ne (ne_of_none k2 hp)]; exact k3, k4⟩, s1.exc, s1.tre.carry (fun _ _ e => ⟨e, rfl⟩) (fun j y p' qs e a => TreAt.updH (TreAt.updH (a.map (Evl.Ex.refl _) fun b _ w k1 k2 k3 => ⟨k1, k2, by
      by_cases hq : b = p
      · rw [hq, dl_self]
      · rw [dl_ne hq]
        exact k3⟩) (a.fresh hp)) (a.ne hx1 (fun _ e => nomatch e) fun _ e => nomatch e)) fun i x p qs e a => s1.tre.sep i x p qs e a⟩
  refine hr (dl F p) σ G1 _ D p _ s2 h0 (by rw [dl_ne (Ne.symm ne)]; exact fx) dl_self upd_same (by rw [upd_ne ne]; exact upd_same) ne gx1 gp1 (.cons i1 .nil) hno fun G' H' vs' g' hx' hp' gx' gp' hi' => k G' H' p vs' ?_ hpH hx' hp' ne gx' gp' hi'
  have e2 : xl (upd (upd H1 p (exd p [(f, w)])) x (exo x C (some p))) x (some p) = xl H1 x (some p) := by
    funext b
    by_cases hb : b = x
    · rw [hb, xl_x, xl_x]
    · by_cases hd : p = b
      · subst hd
        rw [xl_d, xl_d]
      · rw [xl_ne hb (fun z => hd (Option.some.inj z)), xl_ne hb (fun z => hd (Option.some.inj z)), upd_ne hb, upd_ne (Ne.symm hd)]
  rw [e2] at g'
  have g2 := grow_xl (d := none) g1 gx1 fun q e => nomatch e
  refine Grow.trans (G1 := G1) (H1 := xl H1 x (some p)) ⟨g2.g, fun b o e => ?_, xl_sub g1.s gx1 fun q e => ?_, g2.f⟩ g'
  · have z := g2.h b o e
    by_cases hb : b = x
    · rw [hb, xl_x] at z
      cases z
    · have nn : (none : Option Addr) ≠ some b := by simp
      rw [xl_ne hb nn] at z
      rw [xl_ne (d := some p) hb fun w => ?_]
      · exact z
      · cases w
        rw [hp] at z
        cases z
  · cases e
    exact gp1
theorem pe_binit {ta : TA} {es : List Expr} {pl : Sem Bool} (hg : Gl X b) (hB : InitB X.K X.mg b) (ha : PA X (e :: es) ta)
    (hc : eval (.Call (.Attribute (.Name b p1) "__init__" p2) (e :: es) [] pos) X.env = (do
      let ov ← eval (.Name b p1) X.env
      standAt p2.atName
      let (f, first) ← holding [ov] (getMethod ov "__init__" pl)
      callWith pos f first (backTo pos (starEach (e :: es) X.env)) (backToKw pos (keywordEach [] X.env))))
    (he : starEach (e :: es) X.env = (false, eval e X.env) :: starEach es X.env) (hpl : (backTo pos (starEach es X.env)).any (·.1) = false) (hdb : (b == ("__debug__" : Str)) = false) :
    PE X (.Call (.Attribute (.Name b p1) "__init__" p2) (e :: es) [] pos) (tVeI X.K ta) := by
  obtain ⟨C0, mc, h1, h2, h3, h4⟩ := hB.ex
  refine ⟨fun pins s σ H Q I h => ?_⟩
  refine PySem.W.methodCall_KW (ld_glob I hg h1 ?_ hdb) hc
  refine PySem.W.method_cls I.kIn h3 (PySem.W.cls_value I.kIn h2 h4 (by decide +kernel) ?_)
  show wpAny _ _ (callWith pos (Value.builtin "ValueError.__init__") [] (backTo pos (starEach (e :: es) X.env)) []) _ _ _
  refine PyProof.Rows.callWith_method1 (thn (ha.run pos pins _ σ H _ (I.tok _) h) fun us s1 ⟨vs, H1, I1, r1, a, C, ws, ev, hl, T, ea, q⟩ => ?_) he hpl
  subst ev
  cases r1 with
  | @cons _ u0 _ ur ra rw' =>
    obtain rfl : u0 = Value.ref a := ra
    exact oinit_ok T I1 ea (by rw [← Paired.length rw', sizeLine_eq]; omega) fun s' J => ⟨.non, H1, J, rfl, q⟩
/-- B.__init__(self, 'm') -/
theorem xi0_init {m : Str} {j : Nat} {pl : Sem Bool} (hX : XOk lv N sc X) (hn : N[0]? = some y) (hl : Vis sc y) (hB : InitB X.K X.mg b) (hg : Gl X b) (hT : OexC X.K C) (hr : XI0 X x C Γ rest fs')
    (hc : eval (.Call (.Attribute (.Name b p1) "__init__" p2) [.Name y py, .Constant (.str m) j pos2] [] apos) X.env = (do
      let ov ← eval (.Name b p1) X.env
      standAt p2.atName
      let (f, first) ← holding [ov] (getMethod ov "__init__" pl)
      callWith apos f first (backTo apos (starEach [.Name y py, .Constant (.str m) j pos2] X.env)) (backToKw apos (keywordEach [] X.env))) := by rfl)
    (hdb : (b == ("__debug__" : Str)) = false := by decide) (hd : (y == ("__debug__" : Str)) = false := by decide) (hcd : (y == ("__classdict__" : Str)) = false := by decide) :
    XI0 X x C Γ (.Expr (.Call (.Attribute (.Name b p1) "__init__" p2) [.Name y py, .Constant (.str m) j pos2] [] apos) pos :: rest) fs' := fun F σ G H D s h0 fx hx gx hno k => by
  refine w_cons (ps_expr (pe_binit hg hB (pa_cons (pe_var (hX.nm hn) (hX.vs hl) hd hcd) (pa_cons pe_str pa_nil (starEach_ns rfl)) (starEach_ns rfl)) hc (starEach_ns rfl) (plain_ok rfl) hdb) (sw_ns rfl)) ?_
  exact ⟨_, h0, x, C, _, rfl, by show 1 ≤ 1000; decide, hT, hx, hr F σ G H D s h0 fx hx gx hno k⟩
end
/-- what __init__ of an exception promises -/
def spX (K : PySem.W.Frag) (n : Str) {A : Type} (enc : A → List AK) (flds : A → List (Str × D)) : Sp := fun vs H Q E => ∃ (x C : Addr) (ws : List V) (a : A) (G : Hp), vs = .ref x :: ws ∧ ClsX K n C ∧ H x = some (exo x C none) ∧ G x = none ∧ Ex G H ∧ IsAs K G H ws (enc a) ∧
  ∀ G' H' p fs, Grow G (xl H x none) G' (xl H' x (some p)) → H p = none → H' x = some (exo x C (some p)) → H' p = some (exd p fs) → p ≠ x → G' x = none → G' p = none → IsFs K G' fs (flds a) → Q .non H'
section
variable {P : Program} {w : World} {K : PySem.W.Frag} {mg : Str → Option Value} {base : Heap} {x qual n : Str} {st : Stmt} {fa : Addr} {fd : FuncData} {N ps : List Str} {lv : Nat} {A : Type} {enc : A → List AK} {flds : A → List (Str × D)}
theorem init_okX (F : Fun K x qual st fa fd) {nm : Str} (S : FnScope (nm :: N) ps (defScope st)) (hlen : ∀ a, (enc a).length + 1 = ps.length)
    (hb : ∀ a, ∀ (X : Cx) (E : XK), X.prog = P → X.w = w → X.K = K → X.mg = mg → X.base = base → XOk lv (nm :: N) (defScope st) X → XCm X E → ∀ x C, ClsX K n C →
      XI0 X x C (B.un :: ((enc a).map bOf ++ List.replicate (N.length - (enc a).length) B.un)) (defBody st) (flds a)) : FnOk P w K mg base (L2.CX P w) (lv + 1) fa fd ps (spX K n enc flds) := by
  refine F.okX S (fun vs H Q E h => ?_) (fun cdv Ar outer s H vs Q E hr h => ?_)
  · obtain ⟨x, C, ws, a, G, rfl, _, _, _, _, h2, _⟩ := h
    rw [List.length_cons, h2.len, hlen]
  · obtain ⟨x, C, ws, a, G, rfl, hC, hx, gx, h1, h2, h4⟩ := h
    generalize hX : cxOf (L2.CX P w) P w K mg base (nm :: N) qual (defScope st) fa cdv Ar outer s H E = X
    have ok : XOk lv (nm :: N) (defScope st) X := by
      subst hX
      exact ⟨⟨hr.dp, hr.un⟩, fun _ => rfl, rfl, rfl, S.nd, S.kind, rfl, rfl⟩
    have cm : XCm X E := by
      subst hX
      exact ⟨rfl, hr.hd, passes_of rfl, takes_of rfl rfl rfl rfl⟩
    have b := hb a X E (by subst hX; rfl) (by subst hX; rfl) (by subst hX; rfl) (by subst hX; rfl) (by subst hX; rfl) ok cm x C hC
    have hK : X.K = K := by subst hX; rfl
    refine ⟨wS X (defBody st), pss_w, ?_⟩
    have e : L2.start (nm :: N) (V.ref x :: ws) = some (V.ref x) :: L2.start N ws := by
      unfold L2.start
      simp
    rw [e]
    have s0 := (stt_startN (N := N) h2 h1).cons (some (V.ref x))
    -- the frame without the exception itself
    have s1 : Stt K (dl H x) (B.un :: ((enc a).map bOf ++ List.replicate (N.length - (enc a).length) B.un)) (some (V.ref x) :: L2.start N ws) G H := by
      refine ⟨s0.len, s0.sub, s0.dat, fun i o pa h => absurd h (noOwn_of bor_ne i o pa), s0.sep, fun i xs h => ?_, s0.exc, s0.tre.carry (fun _ _ e => ⟨e, rfl⟩) (fun j y p' qs e a => a.map (Evl.Ex.refl _) fun b _ w k1 k2 k3 => ⟨k1, k2, by
        by_cases hq : b = x
        · rw [hq, dl_self]
        · rw [dl_ne hq]
          exact k3⟩) fun i x p qs e a => s0.tre.sep i x p qs e a⟩
      obtain ⟨q, us, k1, k2, k3, k4⟩ := s0.bor i xs h
      refine ⟨q, us, k1, k2, ?_, k4⟩
      rw [dl_ne fun z => ?_]
      · exact k3
      · rw [z, hx] at k2
        have z' : some (HO.ext _) = some (HO.lst us) := k2
        cases z'
    refine b (dl H x) _ G H _ ?_ rfl dl_self hx gx (noOwn_of bor_ne) fun G' H' p fs g hp hx' hp' ne gx' gp' hi => ?_
    · rw [hK]
      exact s1
    · rw [hK] at hi
      exact h4 G' H' p fs g hp hx' hp' ne gx' gp' hi
end
/-- a class of exceptions that is made by its __init__ -/
structure MkrX (P : Program) (w : World) (K : PySem.W.Frag) (mg : Str → Option Value) (base : Heap) (n : Str) (lv : Nat) (sp : Sp) : Prop where
  ex : ∃ (C f : Addr) (fd : FuncData) (ps : List Str), mg n = some (.ref C) ∧ ClsX K n C ∧ PySem.W.findIn K (.ref C) "__init__" = some (some (.ref f)) ∧ PySem.W.typeIn K (.ref f) = some (.type "function") ∧ FnOk P w K mg base (L2.CX P w) lv f fd ps sp ∧ Binds K fd ps []
abbrev MkXX (X : Cx) (n : Str) (lv : Nat) (sp : Sp) : Prop := MkrX X.prog X.w X.K X.mg X.base n lv sp
section
variable {X : Cx} {E : XK} {Γ : List B} {S T R : Type} {Γs : S → List B} {Γb : T → List B} {f : R → Res} {rest : List Stmt} {pos p cpos : Pos} {lv lv' : Nat} {N : List Str} {sc : Scope} {n : Str} {A : Type} {enc : A → List AK} {flds : A → List (Str × D)} {e : Expr} {es : List Expr}
/-- raise C(e, ..) -/
theorem c_raiseX (a : A) (hM : XCm X E) (hX : XOk lv' N sc X) (hk : MkXX X n lv (spX X.K n enc flds)) (hr : Room (lv + 1) X.A) (hg : Gl X n) (ha : EA2 X Γ (e :: es) (enc a)) (hl : (enc a).length ≤ 900) (hnf : flds a ≠ [])
    (hdb : (n == ("__debug__" : Str)) = false := by decide) (he : starEach (e :: es) X.env = (false, eval e X.env) :: starEach es X.env := by exact starEach_ns rfl) (hpl : (backTo cpos (starEach es X.env)).any (·.1) = false := by exact plain_ok rfl) :
    BC X E Γ (.Raise (some (.Call (.Name n p) (e :: es) [] cpos)) none pos :: rest) Γs Γb f (.ret (.err ⟨n, flds a⟩)) := fun F G0 σ G H D s gr post => by
  obtain ⟨C, fI, fd, ps, h1, hC, h2, h3, h4, h5⟩ := hk.ex
  refine w_cons (ps_raise hM.calm hM.takes (pmk_oex (CX := L2.CX X.prog X.w) hC.ox h2 h3 h4 hr h5 .nil passL hg h1 pa_w hdb he hpl)) (ha F σ G H s _ fun vs G1 H1 g1 i1 => ?_)
  refine ⟨by rw [i1.len]; omega, fun x hx => ?_⟩
  rw [List.append_nil]
  have gx : G1 x = none := Evl.fresh_back g1.s hx
  have up : ∀ b o, H1 b = some o → upd H1 x (exo x C none) b = some o := fun b o eb => by
    rw [upd_ne (ne_of_none eb hx)]
    exact eb
  refine ⟨x, C, vs, a, G1, rfl, hC, upd_same, gx, fun b o eb => up b o (g1.s b o eb), ?_, fun G' H' p fs g hp hx' hp' ne gx' gp' hi => ⟨rfl, p, fs, hx', hp', ?_, ?_⟩⟩
  · clear post
    generalize enc a = as at i1
    induction i1 with
    | nil => exact .nil
    | d h _ ih => exact .d h ih
    | l h1 h2 _ ih => exact .l (up _ _ h1) h2 ih
  · rw [upd_ne ne] at hp
    exact hp
  · have hp1 : H1 p = none := by
      rw [upd_ne ne] at hp
      exact hp
    have post' : ∀ cls d G' H', Grow G0 F G' H' → ExIs X.K G' H' ⟨n, flds a⟩ cls d → E cls d H' := post
    have ex3 : ∀ b o, G' b = some o → upd (del H' x) p (.xd fs) b = some o := fun b o eb => by
      have nb : b ≠ p := ne_of_none eb gp'
      have nx : b ≠ x := ne_of_none eb gx'
      rw [upd_ne nb, del_ne nx]
      have z := g.s b o eb
      rw [xl_ne nx fun w => nb (Option.some.inj w).symm] at z
      exact z
    have g3 : Grow G1 H1 (upd G' p (.xd fs)) (upd (del H' x) p (.xd fs)) := by
      refine ⟨g.g.trans (Evl.Ex.new gp'), fun b o eb => ?_, fun b o eb => ?_, fun b o eb nb => ?_⟩
      · have nb : b ≠ p := ne_of_none eb hp1
        have nx : b ≠ x := ne_of_none eb hx
        rw [upd_ne nb, del_ne nx]
        have z := g.h b o (by rw [xl_ne (d := none) nx (by simp), upd_ne nx]; exact eb)
        rw [xl_ne nx fun w => nb (Option.some.inj w).symm] at z
        exact z
      · by_cases hb : b = p
        · rw [hb, upd_same] at eb ⊢
          exact eb
        · rw [upd_ne hb] at eb
          exact ex3 b o eb
      · have nb' : b ≠ p := ne_of_none eb hp1
        have nx : b ≠ x := ne_of_none eb hx
        rw [upd_ne nb']
        exact g.f b o (by rw [xl_ne (d := none) nx (by simp), upd_ne nx]; exact eb) nb
    exact post' (.ref C) (some p) _ _ ((gr.trans g1).trans g3) ⟨hC.nm, fun _ => ⟨p, fs, rfl, upd_same, IsFs.mono (Evl.Ex.new gp') _ _ hi⟩, fun z => absurd z hnf⟩
end
end Sd

namespace Sd
open PySem PySem.Spec PyProof.Rows L2
/-! ### except X as n: suite -/
/-- in the suite: the exception x is held, it is at a, its dict at d -/
def HEx (X : Cx) (a : Addr) (x : Exn) (d : Option Addr) : Prop := ∃ (oe : Obj) (pn : List (Addr × Obj)) (cls : Value), X.A.handled = some (.ref a) ∧ X.calm = false ∧ X.pn = (a, oe) :: pn ∧ Zc cls d oe ∧ (∃ vs, oe.data = .fields vs) ∧ PySem.W.nsIn X.K mainGlobals x.cls = some (some cls)
theorem wish_suite {X : Cx} {a : Addr} {oe : Obj} {pn : List (Addr × Obj)} (h1 : X.A.handled = some (.ref a)) (h2 : X.calm = false) (h3 : X.pn = (a, oe) :: pn) : X.wish (fun _ _ => False) = X.suite a ((a, oe) :: pn) := by
  have e : X.A.mark (some (.ref a)) = X.A := by
    show { X.A with handled := some (Value.ref a) } = X.A
    rw [← h1]
  show _ = { X with A := X.A.mark (some (.ref a)), calm := false, pn := (a, oe) :: pn, xe := fun _ _ => False }
  rw [e, ← h2, ← h3]
theorem call_wish {X : Cx} {f : Value} {r : List V → Hp → VK → Prop} (h : CallR (X.wish (fun _ _ => False)) f r) : CallR X f r := fun pins s σ H xs us Q I rv q => wpAny_mono (h pins s σ H xs us Q (I.wish _) rv q) (fun u s' ⟨v, H', J, r, k⟩ => ⟨v, H', J.unwish, r, k⟩) fun _ _ z => z.elim
theorem pe_wish {X : Cx} {e : Expr} {t : TE} (h : PE (X.wish (fun _ _ => False)) e t) : PE X e t := ⟨fun pins s σ H Q I q => wpAny_mono (h.run pins s σ H Q (I.wish _) q) (fun u s' ⟨v, H', J, r, k⟩ => ⟨v, H', J.unwish, r, k⟩) fun _ _ z => z.elim⟩
section
variable {X : Cx} {E : XK} {Γ : List B} {S T R : Type} {Γs : S → List B} {Γb : T → List B} {f : R → Res} {rest : List Stmt} {pos np pos' bpos : Pos} {lv : Nat} {N : List Str} {sc : Scope} {hx y n : Str} {py : Pos} {e : Expr} {suite : List Stmt} {b₀ : Stmt} {m : Str → Option Bool}
theorem set_un {Γ : List B} {j : Nat} (h : Γ[j]? = some .un) : Γ.set j .un = Γ := by
  apply List.ext_getElem?
  intro k
  by_cases hk : j = k
  · subst hk
    rw [h, List.getElem?_set_self (List.getElem?_eq_some_iff.mp h).1]
  · rw [List.getElem?_set_ne hk]
/-- what the end of a suite must bring, the name gone -/
theorem post_un {S T : Type} {K : PySem.W.Frag} {F G0 G : Hp} {E : XK} {D : Ends} {Γs : S → List B} {Γb : T → List B} {k : Ctl S T} {j : Nat} (hs : ∀ s, (Γs s)[j]? = some .un) (hb : ∀ b, (Γb b)[j]? = some .un) (h : PostC K F G0 G E D Γs Γb k) :
    PostC K F G0 G E { nx := fun σ' H' => D.nx (σ'.set j none) H', rt := D.rt, bk := fun σ' H' => D.bk (σ'.set j none) H', ct := fun σ' H' => D.ct (σ'.set j none) H' } Γs Γb k := by
  cases k with
  | go s => exact fun σ' G' H' ex st gr => h _ G' H' ex (by have q := st.unset j none; rw [set_un (hs s)] at q; exact q) gr
  | brk b => exact fun σ' G' H' ex st gr => h _ G' H' ex (by have q := st.unset j none; rw [set_un (hb b)] at q; exact q) gr
  | ret r => cases r <;> exact h
theorem try_err {τ S' : Type} {Γj : S' → List B} {c : Value} {j : Nat} {k1 : τ → Co S' T R} {k2 : Exn → Co S' T R} {F G0 : Hp} {σ : L2.St} {G H : Hp} {D : Ends} {x : Exn} (hf : NoX f) (hX : XOk lv N sc X) (hM : XCm X E) (hu : ∀ s, (Γj s)[j]? = some .un) (hub : ∀ b, (Γb b)[j]? = some .un)
    (h4 : ∀ n b cls, m n = some b → PySem.W.nsIn X.K mainGlobals n = some (some cls) → PySem.W.exmOne X.K cls c = some b)
    (h2 : ∀ x a oe pn d, HEx (X.suite a ((a, oe) :: pn)) a x d → XOk lv N sc (X.suite a ((a, oe) :: pn)) → BC (X.suite a ((a, oe) :: pn)) E0 (Γ.set j (.exc a d x.fs)) (b₀ :: suite) Γj Γb f (k2 x))
    (s : Stt X.K F Γ σ G H) (gr : Grow G0 F G H) (post : PostC X.K F G0 G E D Γj Γb (Co.ctl f (tryO (.err x) m k1 fun x => (k2 x).ne))) (cls : Value) (d : Option Addr) (G1 H1 : Hp) (g1 : Grow G H G1 H1) (hi : ExIs X.K G1 H1 x cls d) :
    wAs X.K c j (fun a cls d D σ H => ∀ oe pn, Zc cls d oe → (∃ vs, oe.data = .fields vs) → wS (X.suite a ((a, oe) :: pn)) (b₀ :: suite) D σ H) (fun cls d _ H => E cls d H) D cls d σ H1 := by
  have post' : PostC X.K F G0 G E D Γj Γb (Co.ctl f (match m x.cls with | some true => (k2 x).ne | some false => .ret (.err x) | none => .ret .stk)) := post
  cases hm : m x.cls with
  | none =>
    rw [hm] at post'
    exact (show False from post').elim
  | some b =>
    rw [hm] at post'
    refine ⟨b, h4 _ _ _ hm hi.1, fun hb a na oe pn2 hz hd => ?_, fun hb => ?_⟩
    · subst hb
      exact h2 x a oe pn2 d ⟨oe, pn2, cls, rfl, rfl, rfl, hz, hd, hi.1⟩ (hX.su a _) F G0 _ G1 H1 _ ((s.grow g1).setE j ⟨rfl, hi.2.1, hi.2.2⟩) (gr.trans g1) (PostC.up (post_un hu hub (post_ne hf post')) g1.g)
    · subst hb
      exact (show PostR X.K F G0 E D.rt (.x x) from post') cls d G1 H1 (gr.trans g1) hi
/-- try: y = e; except X as n: suite -/
theorem c_tryAn {S' τ : Type} {Γj : S' → List B} (i j : Nat) (enc : τ → D) {r : Out τ} {s1 : τ → S'} {k2 : Exn → Co S' T R} {kr : S' → Co S T R} (hM : XCm X E) (hX : XOk lv N sc X) (hn : N[i]? = some y) (hl : Loc sc y) (hnj : N[j]? = some n) (hlj : sc.names.lookup n = some .local) (hc : ExH X.K X.mg hx m) (hg : Gl X hx)
    (hu : ∀ s, (Γj s)[j]? = some .un) (hub : ∀ b, (Γb b)[j]? = some .un)
    (he : ∀ (W : WX) pn xe, PsAt (X.tr pn xe) (L2.WE W) → ERs (X.tr pn xe) (L2.WE W) Γ e (rsOf (fun v => .v (enc v)) r)) (h1 : ∀ v, Wk (Γ.set i (.d (enc v))) (Γj (s1 v)))
    (h2 : ∀ x a oe pn d, HEx (X.suite a ((a, oe) :: pn)) a x d → XOk lv N sc (X.suite a ((a, oe) :: pn)) → BC (X.suite a ((a, oe) :: pn)) E0 (Γ.set j (.exc a d x.fs)) (b₀ :: suite) Γj Γb f (k2 x)) (hr : ∀ s', BC X E (Γj s') rest Γs Γb f (kr s'))
    (hf : NoX f := by exact fun _ _ _ _ _ _ _ h => h)
    (hs : ∀ pn xe, swapsWith e (some (.Name y py)) bpos.line (X.tr pn xe).env = pure false := by exact fun _ _ => sw_ns rfl) (hdb : (hx == ("__debug__" : Str)) = false := by decide) :
    BC X E Γ (.Try [.Assign [.Name y py] e bpos] [.ExceptHandler (some (.Name hx np)) (some n) (b₀ :: suite) pos'] [] [] pos :: rest) Γs Γb f ((tryO r m (fun v => .go (s1 v)) fun x => (k2 x).ne).bind kr) := by
  show BK _ _ _ _ _ _ (Co.ctl f ((tryO r m (fun v => .go (s1 v)) fun x => (k2 x).ne).bind kr))
  rw [ctl_bind]
  refine b_seq (Γj := Γj) (fun F G0 σ G H D s gr post => ?_) fun s' _ => hr s'
  obtain ⟨c, h3, h4⟩ := hc.ex
  refine ⟨_, ps_try_as (i := j) (c := c) (ts := fun a cls d D σ H => ∀ oe pn, Zc cls d oe → (∃ vs, oe.data = .fields vs) → wS (X.suite a ((a, oe) :: pn)) (b₀ :: suite) D σ H) (tb := fun W D σ H => ∀ pn xe, Takes (X.tr pn xe) W → wS (X.tr pn xe) [.Assign [.Name y py] e bpos] D σ H) hX.stk hX.frm hX.nd (hX.nm hnj) (hX.lk hlj) ⟨hg, hdb, .inl h3⟩ hM.takes
    (fun W pn xe tk _ => ⟨fun pins sh σ H D I h => (h pn xe tk).run pins sh I⟩) (fun a oe cls d pn hz hd => ⟨fun pins sh σ H D I h => (h oe pn hz hd).run pins sh I⟩), ?_⟩
  intro pn xe tk
  have hX' := hX.tr pn xe
  refine w_cons (ps_set hX'.nd (hX'.nm hn) (hX'.lc hl) pe_w (hs pn xe) (.inl (hX'.fn y))) (he _ pn xe (fun σ => passAt tk σ) F σ G H s _ ?_)
  cases r with
  | stk => exact (show False from post).elim
  | ok v =>
    have p : ∀ σ' G' H', Ex G G' → Stt X.K F (Γj (s1 v)) σ' G' H' → Grow G0 F G' H' → D.nx σ' H' := post
    exact fun w G1 H1 g1 i1 => w_nil (p _ G1 H1 g1.g (((s.grow g1).set i i1).wk (h1 v)) (gr.trans g1))
  | err x => exact fun cls d G1 H1 g1 hi => try_err hf hX hM hu hub h4 h2 s gr post cls d G1 H1 g1 hi
/-- try: e; except X as n: suite -/
theorem c_tryEn {S' τ : Type} {Γj : S' → List B} (j : Nat) {res : τ → Res} {r : Out τ} {s1 : S'} {k2 : Exn → Co S' T R} {kr : S' → Co S T R} (hM : XCm X E) (hX : XOk lv N sc X) (hnj : N[j]? = some n) (hlj : sc.names.lookup n = some .local) (hc : ExH X.K X.mg hx m) (hg : Gl X hx)
    (hu : ∀ s, (Γj s)[j]? = some .un) (hub : ∀ b, (Γb b)[j]? = some .un)
    (he : ∀ (W : WX) pn xe, PsAt (X.tr pn xe) (L2.WE W) → ERs (X.tr pn xe) (L2.WE W) Γ e (rsOf res r)) (h1 : Wk Γ (Γj s1))
    (h2 : ∀ x a oe pn d, HEx (X.suite a ((a, oe) :: pn)) a x d → XOk lv N sc (X.suite a ((a, oe) :: pn)) → BC (X.suite a ((a, oe) :: pn)) E0 (Γ.set j (.exc a d x.fs)) (b₀ :: suite) Γj Γb f (k2 x)) (hr : ∀ s', BC X E (Γj s') rest Γs Γb f (kr s'))
    (hf : NoX f := by exact fun _ _ _ _ _ _ _ h => h) (hres : ∀ v, (∃ z, res v = .v z) ∨ ∃ z, res v = .o z := by exact fun _ => by first | exact .inl ⟨_, rfl⟩ | exact .inr ⟨_, rfl⟩)
    (hs : ∀ pn xe, swapsWith e none bpos.line (X.tr pn xe).env = pure false := by exact fun _ _ => sw_ns rfl) (hdb : (hx == ("__debug__" : Str)) = false := by decide) :
    BC X E Γ (.Try [.Expr e bpos] [.ExceptHandler (some (.Name hx np)) (some n) (b₀ :: suite) pos'] [] [] pos :: rest) Γs Γb f ((tryO r m (fun _ => .go s1) fun x => (k2 x).ne).bind kr) := by
  show BK _ _ _ _ _ _ (Co.ctl f ((tryO r m (fun _ => .go s1) fun x => (k2 x).ne).bind kr))
  rw [ctl_bind]
  refine b_seq (Γj := Γj) (fun F G0 σ G H D s gr post => ?_) fun s' _ => hr s'
  obtain ⟨c, h3, h4⟩ := hc.ex
  refine ⟨_, ps_try_as (i := j) (c := c) (ts := fun a cls d D σ H => ∀ oe pn, Zc cls d oe → (∃ vs, oe.data = .fields vs) → wS (X.suite a ((a, oe) :: pn)) (b₀ :: suite) D σ H) (tb := fun W D σ H => ∀ pn xe, Takes (X.tr pn xe) W → wS (X.tr pn xe) [.Expr e bpos] D σ H) hX.stk hX.frm hX.nd (hX.nm hnj) (hX.lk hlj) ⟨hg, hdb, .inl h3⟩ hM.takes
    (fun W pn xe tk _ => ⟨fun pins sh σ H D I h => (h pn xe tk).run pins sh I⟩) (fun a oe cls d pn hz hd => ⟨fun pins sh σ H D I h => (h oe pn hz hd).run pins sh I⟩), ?_⟩
  intro pn xe tk
  have hX' := hX.tr pn xe
  refine w_cons (ps_expr pe_w (hs pn xe)) (he _ pn xe (fun σ => passAt tk σ) F σ G H s _ ?_)
  cases r with
  | stk => exact (show False from post).elim
  | ok v =>
    have p : ∀ σ' G' H', Ex G G' → Stt X.K F (Γj s1) σ' G' H' → Grow G0 F G' H' → D.nx σ' H' := post
    show PostR _ _ _ _ _ (res v)
    rcases hres v with ⟨z, e⟩ | ⟨z, e⟩
    · rw [e]
      exact fun w G1 H1 g1 i1 => w_nil (p _ G1 H1 g1.g ((s.grow g1).wk h1) (gr.trans g1))
    · rw [e]
      exact fun q u G1 H1 g1 _ _ _ _ => w_nil (p _ G1 H1 g1.g ((s.grow g1).wk h1) (gr.trans g1))
  | err x => exact fun cls d G1 H1 g1 hi => try_err hf hX hM hu hub h4 h2 s gr post cls d G1 H1 g1 hi
end
/-! ### isinstance of the exception that is held; its fields -/
/-- what isinstance says of the exception classes of a table -/
structure ExI (K : PySem.W.Frag) (cv : Value) (m : Str → Option Bool) : Prop where
  ex : ∀ n b cls, m n = some b → PySem.W.nsIn K mainGlobals n = some (some cls) → ∃ C, cls = .ref C ∧ ExcC K C ∧ PySem.W.kitOne K (.ref C) cv = some b
/-- .. an own class by its name -/
structure ExIC (K : PySem.W.Frag) (mg : Str → Option Value) (c : Str) (m : Str → Option Bool) : Prop where
  ex : ∃ D', mg c = some (.ref D') ∧ ExI K (.ref D') m
/-- the classes of a table have fields of that name -/
structure ExF (K : PySem.W.Frag) (f : Str) (m : Str → Bool) : Prop where
  ex : ∀ n cls, m n = true → PySem.W.nsIn K mainGlobals n = some (some cls) → ∃ C, cls = .ref C ∧ XfC K C ∧ PySem.W.findIn K (.ref C) f = some none
def rIsX (K : PySem.W.Frag) (C a : Addr) (d : Option Addr) : List V → Hp → VK → Prop := fun xs H Q => ∃ (c : V) (cv : Value) (b : Bool), xs = [.ref a, c] ∧ (∀ u, RelV c u → u = cv) ∧ PySem.W.kitOne K (.ref C) cv = some b ∧ (d = none ∨ ∃ p fs, d = some p ∧ H p = some (.xd fs)) ∧ Q (.bl b) H
theorem call_isX {X : Cx} {a C : Addr} {d : Option Addr} {oe : Obj} {pn : List (Addr × Obj)} (T : ExcC X.K C) (hz : Zc (.ref C) d oe) (hf : ∃ vs, oe.data = .fields vs) : CallR (X.suite a ((a, oe) :: pn)) (.builtin "isinstance") (rIsX X.K C a d) := by
  intro pins s σ H xs us Q I r h
  obtain ⟨c, cv, b, rfl, hcv, e, hd, q⟩ := h
  cases r with
  | cons rx rr =>
    cases rr with
    | cons rt rr =>
      cases rr
      cases rx
      have ec := hcv _ rt
      subst ec
      obtain ⟨hget, _⟩ := I.pin (a, oe) (List.mem_append.mpr (.inl List.mem_cons_self))
      obtain ⟨vs, hv⟩ := hf
      have hcl : (PySem.W.clsIn X.K C).isSome = true := by
        have z := T.hd
        unfold PySem.W.hasDictIn at z
        cases q : PySem.W.clsIn X.K C with
        | none =>
          rw [q] at z
          cases z
        | some _ => rfl
      have J : ∃ od, PySem.W.InstAt s.heap a oe C od := by
        obtain ⟨oc, od, oda, osl⟩ := oe
        obtain ⟨h1, h2⟩ := hz
        dsimp only at h1 h2 hv
        subst h1 h2 hv
        rcases hd with hd | ⟨p, fs, hd, hp⟩
        · subst hd
          exact ⟨none, hget, rfl, rfl, trivial⟩
        · subst hd
          obtain ⟨o, ho⟩ := objOk_get (I.hok p _ hp)
          exact ⟨some o, hget, rfl, rfl, ho⟩
      obtain ⟨od, J⟩ := J
      exact PySem.W.kia_one (PySem.W.kitx_exc (od := od) hcl T.hg T.hk T.hs T.ha T.hn T.ht T.hm) I.kIn J e (fun z => nomatch z) fun tk => ⟨.bl b, H, I.kept (t' := tk) fun _ _ z => z, rfl, q⟩
theorem ExS.dict {K : PySem.W.Frag} {G H : Hp} {v : V} {a : Addr} {d : Option Addr} {fs : List (Str × D)} (h : ExS K G v a d fs) (ex : Ex G H) : d = none ∨ ∃ p vs, d = some p ∧ H p = some (.xd vs) := by
  cases fs with
  | nil => exact .inl (h.2.2 rfl)
  | cons z fs =>
    obtain ⟨p, vs, h1, h2, _⟩ := h.2.1 (by simp)
    exact .inr ⟨p, vs, h1, ex _ _ h2⟩
section
variable {X : Cx} {Γ : List B} {pos p p2 py : Pos} {b : Expr} {c y f : Str} {a : Addr} {d : Option Addr} {x : Exn} {m : Str → Option Bool} {mf : Str → Bool} {r : Bool} {N : List Str} {sc : Scope} {lv : Nat}
theorem XOk.wish {X : Cx} {lv : Nat} {N : List Str} {sc : Scope} (h : XOk lv N sc X) (xe : Value → Shared → Prop) : XOk lv N sc (X.wish xe) := ⟨h.room, h.fn, h.hN, h.hsc, h.nd, h.kd, h.stk, h.frm⟩
theorem pe_exv (i : Nat) (hX : XOk lv N sc X) (hn : N[i]? = some y) (hv : Vis sc y) (hd : (y == ("__debug__" : Str)) = false := by decide) (hcd : (y == ("__classdict__" : Str)) = false := by decide) : PE X (.Name y py) (tVar i) := pe_var (hX.nm hn) (hX.vs hv) hd hcd
/-- isinstance(n, C), C an own class -/
theorem ed_isXC (i : Nat) (hX : XOk lv N sc X) (hn : N[i]? = some y) (hv : Vis sc y) (hE : HEx X a x d) (h : Γ[i]? = some (.exc a d x.fs)) (hg : Gl X "isinstance") (hm : X.mg "isinstance" = none) (hgc : Gl X c) (hT : ExIC X.K X.mg c m) (hr : (m x.cls).isSome = true)
    (hdb : (c == ("__debug__" : Str)) = false := by decide) (hd : (y == ("__debug__" : Str)) = false := by decide) (hcd : (y == ("__classdict__" : Str)) = false := by decide) : ED X Γ (.Call (.Name "isinstance" p) [.Name y py, .Name c p2] [] pos) (.bl ((m x.cls).getD false)) := by
  obtain ⟨D', hD, hT⟩ := hT.ex
  obtain ⟨r, hr⟩ := Option.isSome_iff_exists.mp hr
  rw [hr]
  show ED _ _ _ (.bl r)
  obtain ⟨oe, pn, cls, w1, w2, w3, hz, hf, hcls⟩ := hE
  have ws := wish_suite w1 w2 w3
  obtain ⟨C, rfl, k1, k2⟩ := hT.ex _ _ _ hr hcls
  exact ed_of (pe_callB (call_wish (by rw [ws]; exact call_isX (X := X) k1 hz hf)) hg hm (by decide +kernel) (pa_cons (pe_exv i hX hn hv hd hcd) (pa_cons (pe_glob (v := .ref D') hgc hD rfl hdb) pa_nil (starEach_ns rfl)) (starEach_ns rfl)) (by decide) (by decide) (starEach_ns rfl) (plain_ok rfl)) fun F σ G H s Q q => by
    obtain ⟨v, h1, h2⟩ := s.exc i _ _ _ h
    obtain rfl := h2.1
    exact ⟨_, h1, _, _, r, rfl, fun u ru => ru, k2, h2.dict s.sub, q _ G H (.refl s.sub) (.bl r)⟩
/-- isinstance(n, T), T a built-in class -/
theorem ed_isXB (i : Nat) {t : String} (hX : XOk lv N sc X) (hn : N[i]? = some y) (hv : Vis sc y) (hE : HEx X a x d) (h : Γ[i]? = some (.exc a d x.fs)) (hg : Gl X "isinstance") (hm : X.mg "isinstance" = none) (hb : ED X Γ b (.ty t)) (hT : ExI X.K (.type t) m) (hr : (m x.cls).isSome = true)
    (hst : starEach [b] X.env = (false, eval b X.env) :: starEach [] X.env := by exact starEach_ns rfl) (hpl : (backTo pos (starEach [b] X.env)).any (·.1) = false := by exact plain_ok rfl)
    (hd : (y == ("__debug__" : Str)) = false := by decide) (hcd : (y == ("__classdict__" : Str)) = false := by decide) : ED X Γ (.Call (.Name "isinstance" p) [.Name y py, b] [] pos) (.bl ((m x.cls).getD false)) := by
  obtain ⟨r, hr⟩ := Option.isSome_iff_exists.mp hr
  rw [hr]
  show ED _ _ _ (.bl r)
  obtain ⟨oe, pn, cls, w1, w2, w3, hz, hf, hcls⟩ := hE
  have ws := wish_suite w1 w2 w3
  obtain ⟨C, rfl, k1, k2⟩ := hT.ex _ _ _ hr hcls
  exact ed_of (pe_callB (call_wish (by rw [ws]; exact call_isX (X := X) k1 hz hf)) hg hm (by decide +kernel) (pa_cons (pe_exv i hX hn hv hd hcd) (pa_cons pe_w pa_nil hst) (starEach_ns rfl)) (by decide) (by decide) (starEach_ns rfl) hpl) fun F σ G H s Q q => by
    obtain ⟨v, h1, h2⟩ := s.exc i _ _ _ h
    obtain rfl := h2.1
    refine ⟨_, h1, hb F σ G H s _ fun w G1 H1 g1 i1 => ?_⟩
    cases i1
    exact ⟨_, _, r, rfl, fun u ru => ru, k2, h2.dict s.sub |>.imp id fun ⟨p, vs, k3, k4⟩ => ⟨p, vs, k3, g1.h _ _ k4⟩, q _ G1 H1 g1 (.bl r)⟩
/-- n.f -/
theorem ed_fldX (i : Nat) (hX : XOk lv N sc X) (hn : N[i]? = some y) (hv : Vis sc y) (hE : HEx X a x d) (h : Γ[i]? = some (.exc a d x.fs)) (hT : ExF X.K f mf) (hr : mf x.cls = true) (hl : (x.fs.lookup f).isSome = true)
    (hd : (y == ("__debug__" : Str)) = false := by decide) (hcd : (y == ("__classdict__" : Str)) = false := by decide) : ED X Γ (.Attribute (.Name y py) f pos) ((x.fs.lookup f).getD .non) := by
  obtain ⟨z, hl⟩ := Option.isSome_iff_exists.mp hl
  rw [hl]
  show ED _ _ _ z
  obtain ⟨oe, pn, cls, w1, w2, w3, hz, hf, hcls⟩ := hE
  have ws := wish_suite w1 w2 w3
  obtain ⟨C, rfl, k1, k2⟩ := hT.ex _ _ hr hcls
  exact ed_of (pe_wish (by rw [ws]; exact pe_xf (X := X) k1 k2 hz hf (pe_exv i (hX.su a _) hn hv hd hcd) (ab_ns rfl))) fun F σ G H s Q q => by
    obtain ⟨v, h1, h2⟩ := s.exc i _ _ _ h
    obtain rfl := h2.1
    obtain ⟨p, vs, k3, k4, k5⟩ := h2.2.1 (by intro w; rw [w] at hl; cases hl)
    obtain ⟨w, k6, k7⟩ := k5.get hl
    exact ⟨_, h1, rfl, rfl, p, vs, w, k3, s.sub _ _ k4, k6, q w G H (.refl s.sub) k7⟩
end
end Sd

namespace Sd
open PySem L2
/-! ### stepping through mirrors -/
section
variable {α S S' T R Y : Type} {p : Prop} {k c : Co S T R}
theorem chk_then (h : p) (hk : k = c) : chk p k = c := (chk_pos h).trans hk
theorem bnd_then {x : α} {f : α → Co S T R} (hk : f x = c) : bnd x f = c := hk
theorem bndO_then {o : Out α} {v : α} {f : α → Co S T R} (h : o = .ok v) (hk : f v = c) : bndO o f = c := by
  rw [h]
  exact hk
theorem bndO_err {o : Out α} {e : Exn} {f : α → Co S T R} (h : o = .err e) : bndO o f = .ret (.err e) := by
  rw [h]
  rfl
theorem bind_then {a : Co S' T R} {s : S'} {f : S' → Co S T R} (h : a = .go s) (hk : f s = c) : Co.bind a f = c := by
  rw [h]
  exact hk
theorem bind_ret {a : Co S' T R} {o : Out R} {f : S' → Co S T R} (h : a = .ret o) : Co.bind a f = .ret o := by
  rw [h]
  rfl
theorem ite_t {b : Bool} {x y : Co S T R} (h : b = true) (hk : x = c) : (if b = true then x else y) = c := by
  rw [h]
  exact hk
theorem ite_f {b : Bool} {x y : Co S T R} (h : b = false) (hk : y = c) : (if b = true then x else y) = c := by
  rw [h]
  exact hk
theorem up_then {a : Co Empty T R} {o : Out R} (h : a = .ret o) : (Co.up a : Co S T R) = .ret o := by
  rw [h]
  rfl
theorem try_ok {o : Out α} {m : Str → Option Bool} {v : α} {f : α → Co S T R} {g : Exn → Co S T R} (h : o = .ok v) (hk : f v = c) : tryO o m f g = c := by
  rw [h]
  exact hk
theorem try_hit {o : Out α} {m : Str → Option Bool} {e : Exn} {f : α → Co S T R} {g : Exn → Co S T R} (h : o = .err e) (hm : m e.cls = some true) (hk : g e = c) : tryO o m f g = c := by
  rw [h]
  show (match m e.cls with | some true => g e | some false => _ | none => _) = c
  rw [hm]
  exact hk
/-- what a body hands back -/
theorem out_ret {g o : Out R} {a : Co Unit Empty R} (h : a = .ret o) : a.out g = o := by
  rw [h]
  rfl
theorem out_go {g : Out R} {a : Co Unit Empty R} (h : a = .go ()) : a.out g = g := by
  rw [h]
  rfl
theorem isOk_of {o : Out α} {v : α} (h : o = .ok v) : o.IsOk := Out.ok_of h
/-! loops -/
theorem loop_nil {step : S → Y → Co S S R} {s : S} : (coLoop step s [] : Co S T R) = .go s := rfl
theorem loop_cons {step : S → Y → Co S S R} {s s' : S} {y : Y} {ys : List Y} (h : step s y = .go s') : (coLoop step s (y :: ys) : Co S T R) = coLoop step s' ys := by
  show (match step s y with | .go s' => coLoop step s' ys | .brk s' => .go s' | .ret r => .ret r) = _
  rw [h]
theorem loop_stop {step : S → Y → Co S S R} {s : S} {y : Y} {ys : List Y} {o : Out R} (h : step s y = .ret o) : (coLoop step s (y :: ys) : Co S T R) = .ret o := by
  show (match step s y with | .go s' => coLoop step s' ys | .brk s' => .go s' | .ret r => .ret r) = _
  rw [h]
theorem loop_brk {step : S → Y → Co S S R} {s s' : S} {y : Y} {ys : List Y} (h : step s y = .brk s') : (coLoop step s (y :: ys) : Co S T R) = .go s' := by
  show (match step s y with | .go s' => coLoop step s' ys | .brk s' => .go s' | .ret r => .ret r) = _
  rw [h]
/-- every turn goes on, the state is what it was -/
theorem loop_same {step : S → Y → Co S S R} {s : S} : ∀ {ys : List Y}, (∀ y ∈ ys, step s y = .go s) → (coLoop step s ys : Co S T R) = .go s
  | [], _ => rfl
  | y :: ys, h => by
    rw [loop_cons (h y List.mem_cons_self)]
    exact loop_same fun z hz => h z (List.mem_cons_of_mem _ hz)
/-- an invariant by the number of turns -/
theorem loop_inv {step : S → Y → Co S S R} (P : Nat → S → Prop) : ∀ (ys : List Y) (n : Nat) (s : S), P n s → (∀ i s y, ys[i]? = some y → P (n + i) s → ∃ s', step s y = .go s' ∧ P (n + i + 1) s') → ∃ s', (coLoop step s ys : Co S T R) = .go s' ∧ P (n + ys.length) s'
  | [], n, s, h, _ => ⟨s, rfl, h⟩
  | y :: ys, n, s, h, st => by
    obtain ⟨s1, e1, h1⟩ := st 0 s y rfl h
    obtain ⟨s2, e2, h2⟩ := loop_inv P ys (n + 1) s1 h1 fun i s z hz hp => by
      obtain ⟨s3, e3, h3⟩ := st (i + 1) s z (by simpa using hz) (by rw [show n + (i + 1) = n + 1 + i by omega]; exact hp)
      exact ⟨s3, e3, by rw [show n + 1 + i + 1 = n + (i + 1) + 1 by omega]; exact h3⟩
    refine ⟨s2, by rw [loop_cons e1]; exact e2, ?_⟩
    rw [List.length_cons, show n + (ys.length + 1) = n + 1 + ys.length by omega]
    exact h2
/-- an invariant by what was gone through -/
theorem loop_ind {step : S → Y → Co S S R} (P : List Y → S → Prop) : ∀ (ys pre : List Y) (s : S), P pre s → (∀ pre' s y post, pre ++ ys = pre' ++ y :: post → P pre' s → ∃ s', step s y = .go s' ∧ P (pre' ++ [y]) s') → ∃ s', (coLoop step s ys : Co S T R) = .go s' ∧ P (pre ++ ys) s'
  | [], pre, s, h, _ => ⟨s, rfl, by rw [List.append_nil]; exact h⟩
  | y :: ys, pre, s, h, st => by
    obtain ⟨s1, e1, h1⟩ := st pre s y ys rfl h
    obtain ⟨s2, e2, h2⟩ := loop_ind P ys (pre ++ [y]) s1 h1 fun pre' s z post e hp => st pre' s z post (by rw [← e, List.append_assoc]; rfl) hp
    exact ⟨s2, by rw [loop_cons e1]; exact e2, by rw [List.append_assoc] at h2; exact h2⟩
/-- a fold, where every turn goes on -/
theorem loop_foldlC {step : S → Y → Co S S R} (f : S → Y → S) : ∀ (ys : List Y) (s : S), (∀ s y, y ∈ ys → step s y = .go (f s y)) → (coLoop step s ys : Co S T R) = .go (ys.foldl f s)
  | [], _, _ => rfl
  | y :: ys, s, h => by
    rw [loop_cons (h s y List.mem_cons_self)]
    exact loop_foldlC f ys _ fun s z hz => h s z (List.mem_cons_of_mem _ hz)
/-- a search that leaves at the first hit -/
theorem loop_findC {step : S → Y → Co S S R} {q : Y → Bool} {s : S} {o : Y → Out R} : ∀ {ys : List Y}, (∀ y ∈ ys, step s y = if q y = true then .ret (o y) else .go s) → (coLoop step s ys : Co S T R) = match ys.find? q with | some y => .ret (o y) | none => .go s
  | [], _ => rfl
  | y :: ys, h => by
    have e := h y List.mem_cons_self
    cases hq : q y with
    | true =>
      rw [hq, if_pos rfl] at e
      rw [loop_stop e, List.find?_cons_of_pos hq]
    | false =>
      rw [hq, if_neg Bool.false_ne_true] at e
      rw [loop_cons e, List.find?_cons_of_neg (by rw [hq]; exact Bool.false_ne_true)]
      exact loop_findC fun z hz => h z (List.mem_cons_of_mem _ hz)
/-- all are as wanted, or the loop leaves -/
theorem loop_allC {step : S → Y → Co S S R} {q : Y → Bool} {s : S} {o : Out R} : ∀ {ys : List Y}, (∀ y ∈ ys, step s y = if q y = true then .go s else .ret o) → (coLoop step s ys : Co S T R) = if ys.all q = true then .go s else .ret o
  | [], _ => rfl
  | y :: ys, h => by
    have e := h y List.mem_cons_self
    cases hq : q y with
    | true =>
      rw [hq, if_pos rfl] at e
      rw [loop_cons e, List.all_cons, hq, Bool.true_and]
      exact loop_allC fun z hz => h z (List.mem_cons_of_mem _ hz)
    | false =>
      rw [hq, if_neg Bool.false_ne_true] at e
      rw [loop_stop e, List.all_cons, hq, Bool.false_and]
      rfl
end
theorem ite_ret {S T R : Type} {b : Bool} {x y : R} : (if b = true then (.ret (.ok x) : Co S T R) else .ret (.ok y)) = .ret (.ok (if b = true then x else y)) := by cases b <;> rfl
theorem rints_get' {lo : Int} {n i : Nat} {x : Int} (h : (rints lo n)[i]? = some x) : x = lo + (i : Int) ∧ i < n := by
  have hl := (List.getElem?_eq_some_iff.mp h).1
  rw [rints_len] at hl
  rw [rints_get hl] at h
  exact ⟨(Option.some.inj h).symm, hl⟩
theorem ix_some {α : Type} {xs : List α} {i : Nat} {x d : α} (h : xs[i]? = some x) : ix xs (i : Int) d = x := by
  rw [ix_nat, List.getD_eq_getElem?_getD, h]
  rfl
theorem ix_zero {α : Type} {t : α} {ts : List α} {d : α} : ix (t :: ts) 0 d = t := ix_nat (t :: ts) 0 d
theorem cut_one {α : Type} {t : α} {ts : List α} : cutL (t :: ts) (some 1) none = ts := by
  unfold cutL
  have e1 : HT.sIx (t :: ts).length 0 (some 1) = 1 := by
    have q := HT.sIx_nat (t :: ts).length 0 1
    rw [List.length_cons] at q ⊢
    exact q.trans (by omega)
  rw [e1]
  show ts.take (ts.length + 1 - 1) = ts
  exact List.take_length
theorem cut_from {α : Type} (xs : List α) (n : Nat) (h : n ≤ xs.length) : cutL xs (some (n : Int)) none = xs.drop n := by
  unfold cutL
  rw [HT.sIx_nat]
  show (xs.drop (min n xs.length)).take (xs.length - min n xs.length) = _
  rw [Nat.min_eq_left h]
  exact List.take_of_length_le (by rw [List.length_drop]; omega)
theorem cut_to {α : Type} (xs : List α) (n : Nat) : cutL xs none (some (n : Int)) = xs.take n := by
  unfold cutL
  rw [HT.sIx_nat]
  show (xs.drop 0).take (min n xs.length - 0) = _
  rw [List.drop_zero, Nat.sub_zero]
  by_cases h : n ≤ xs.length
  · rw [Nat.min_eq_left h]
  · rw [Nat.min_eq_right (by omega), List.take_of_length_le (Nat.le_refl _), List.take_of_length_le (by omega)]
theorem LMax_eq : LMax = 16000000 := rfl
theorem if_ix {α : Type} {xs : List α} {b : Bool} (h : 2 ≤ xs.length) : -(xs.length : Int) ≤ (if b = true then 1 else 0 : Int) ∧ (if b = true then 1 else 0 : Int) < (xs.length : Int) := by
  cases b <;> simp <;> omega
end Sd

namespace Sd
open PySem L2
/-! ### mirrors by rewriting -/
section
variable {α S S' T R Y : Type}
theorem chk_true {k : Co S T R} : chk True k = k := chk_pos trivial
theorem isOk_ok {v : α} : (Out.ok v).IsOk = True := rfl
theorem isOk_err {e : Exn} : (Out.err e : Out α).IsOk = False := rfl
theorem get_okE {v d : α} : (Out.ok v).get d = v := rfl
theorem bndO_okE {v : α} {f : α → Co S T R} : bndO (.ok v) f = f v := rfl
theorem bndO_errE {e : Exn} {f : α → Co S T R} : bndO (.err e) f = .ret (.err e) := rfl
theorem bind_goE {s : S'} {f : S' → Co S T R} : Co.bind (.go s) f = f s := rfl
theorem bind_retE {o : Out R} {f : S' → Co S T R} : Co.bind (.ret o) f = .ret o := rfl
theorem up_retE {o : Out R} : (Co.up (.ret o) : Co S T R) = .ret o := rfl
theorem out_retE {g o : Out R} : Co.out g (.ret o) = o := rfl
theorem out_goE {g : Out R} : Co.out g (.go ()) = g := rfl
theorem bind_iteE {b : Bool} {x y : Co S' T R} {f : S' → Co S T R} : Co.bind (if b = true then x else y) f = if b = true then Co.bind x f else Co.bind y f := by cases b <;> rfl
theorem up_iteE {b : Bool} {x y : Co Empty T R} : (Co.up (if b = true then x else y) : Co S T R) = if b = true then Co.up x else Co.up y := by cases b <;> rfl
theorem out_iteE {b : Bool} {g : Out R} {x y : Co Unit Empty R} : Co.out g (if b = true then x else y) = if b = true then Co.out g x else Co.out g y := by cases b <;> rfl
theorem try_okE {m : Str → Option Bool} {v : α} {f : α → Co S T R} {g : Exn → Co S T R} : tryO (.ok v) m f g = f v := rfl
theorem ok_ite {b : Bool} {x y : α} : (if b = true then Out.ok x else .ok y) = .ok (if b = true then x else y) := by cases b <;> rfl
theorem ok_bool {b : Bool} : (if b = true then Out.ok true else .ok false) = .ok b := by cases b <;> rfl
theorem ok_nbool {b : Bool} : (if b = true then Out.ok false else .ok true) = .ok (!b) := by cases b <;> rfl
end
theorem ite_bool {b : Bool} : (if b = true then true else false) = b := by cases b <;> rfl
theorem join_okL {n m k : Nat} {ls : List (List Nat)} {s : List Nat} (h : ∀ x ∈ ls, x.length ≤ n) (hm : ls.length ≤ m) (hs : s.length ≤ k) (hk : n * m + m * k ≤ 16000000) : (ls.map (·.length)).sum + ls.length * s.length ≤ LMax := by
  have h1 := sum_le h
  have h2 : n * ls.length ≤ n * m := Nat.mul_le_mul_left n hm
  have h3 : ls.length * s.length ≤ m * k := Nat.mul_le_mul hm hs
  show _ ≤ 16000000
  omega
theorem joinS_one (s a : List Nat) : joinS s [a] = a := by
  rw [joinS_eq]
  rfl
theorem joinS_two (s a b : List Nat) (r : List (List Nat)) : joinS s (a :: b :: r) = a ++ (s ++ joinS s (b :: r)) := by
  rw [joinS_eq, joinS_eq]
  rfl
theorem er_map {α β : Type} {X : Cx} {E : L2.St → XK} {Γ : List B} {e : Expr} {F : α → Res} {F' : β → Res} {r : Out α} (g : α → β) (h : ∀ v, F v = F' (g v)) (he : ERs X E Γ e (rsOf F r)) : ERs X E Γ e (rsOf F' (mapO g r)) := by
  have q : rsOf F r = rsOf F' (mapO g r) := by
    cases r with
    | ok v => exact h v
    | err e => rfl
    | stk => rfl
  rw [q] at he
  exact he
theorem mapO_ok {α β : Type} {g : α → β} {v : α} : mapO g (.ok v) = .ok (g v) := rfl
theorem mapO_err {α β : Type} {g : α → β} {e : Exn} : mapO g (.err e) = .err e := rfl
theorem if_two {α : Type} {x y : α} {b : Bool} : -(([x, y] : List α).length : Int) ≤ (if b = true then 1 else 0 : Int) ∧ (if b = true then 1 else 0 : Int) < (([x, y] : List α).length : Int) := if_ix (Nat.le_refl 2)
theorem chk_two {α S T R : Type} {x y : α} {b : Bool} {k : Co S T R} : chk (-(([x, y] : List α).length : Int) ≤ (if b = true then 1 else 0 : Int) ∧ (if b = true then 1 else 0 : Int) < (([x, y] : List α).length : Int)) k = k := chk_pos if_two
theorem sum_app (a b : List (List Nat)) : ((a ++ b).map (·.length)).sum = (a.map (·.length)).sum + (b.map (·.length)).sum := by rw [List.map_append, List.sum_append]
theorem sum_drop (ls : List (List Nat)) (n : Nat) : ((ls.drop n).map (·.length)).sum ≤ (ls.map (·.length)).sum := by
  have := sum_app (ls.take n) (ls.drop n)
  rw [List.take_append_drop] at this
  omega
theorem sum_take (ls : List (List Nat)) (n : Nat) : ((ls.take n).map (·.length)).sum ≤ (ls.map (·.length)).sum := by
  have := sum_app (ls.take n) (ls.drop n)
  rw [List.take_append_drop] at this
  omega
theorem sum_cut (ls : List (List Nat)) (i j : Option Int) : ((cutL ls i j).map (·.length)).sum ≤ (ls.map (·.length)).sum := Nat.le_trans (sum_take _ _) (sum_drop _ _)
theorem joinL_sum (s : List Nat) : ∀ (ls : List (List Nat)), ls ≠ [] → (TL.joinL s ls).length + s.length = (ls.map (·.length)).sum + ls.length * s.length
  | [], h => absurd rfl h
  | [p], _ => by
    show p.length + s.length = (p.length + 0) + 1 * s.length
    omega
  | p :: q :: r, _ => by
    have ih := joinL_sum s (q :: r) (by simp)
    show (p ++ (s ++ TL.joinL s (q :: r))).length + s.length = (p.length + ((q :: r).map (·.length)).sum) + ((q :: r).length + 1) * s.length
    rw [List.length_append, List.length_append, Nat.add_mul]
    omega
theorem split_sum {c : Nat} (hc : c < 256) (l : List Nat) : ((splitS l [c]).map (·.length)).sum + (splitS l [c]).length = l.length + 1 := by
  have h := joinL_sum [c] (splitS l [c]) (by
    intro e
    have := splitS_pos hc l
    rw [e] at this
    exact absurd this (by decide))
  rw [← joinS_eq, join_split hc] at h
  simp only [List.length_cons, List.length_nil] at h
  omega
theorem cut_jok {ls : List (List Nat)} {c : Nat} (h : (ls.map (·.length)).sum + ls.length ≤ LMax) (i j : Option Int) : ((cutL ls i j).map (·.length)).sum + (cutL ls i j).length * ([c] : List Nat).length ≤ LMax := by
  have h1 := sum_cut ls i j
  have h2 := cutL_len ls i j
  show _ + _ * 1 ≤ _
  omega
/-! tables of classes -/
theorem tab_nil {K : PySem.W.Frag} {P : Value → Bool → Prop} : ∀ n b cls, List.lookup n ([] : List (Str × Bool)) = some b → PySem.W.nsIn K mainGlobals n = some (some cls) → P cls b := fun n b cls h _ => nomatch h
theorem tab_cons {K : PySem.W.Frag} {P : Value → Bool → Prop} {n0 : Str} {b0 : Bool} {c0 : Value} {l : List (Str × Bool)} (h0 : PySem.W.nsIn K mainGlobals n0 = some (some c0)) (h1 : P c0 b0) (h2 : ∀ n b cls, List.lookup n l = some b → PySem.W.nsIn K mainGlobals n = some (some cls) → P cls b) :
    ∀ n b cls, List.lookup n ((n0, b0) :: l) = some b → PySem.W.nsIn K mainGlobals n = some (some cls) → P cls b := fun n b cls h hn => by
  rw [List.lookup_cons] at h
  cases e : (n == n0) with
  | true =>
    rw [e] at h
    have h : some b0 = some b := h
    cases h
    have e' := eq_of_beq e
    subst e'
    rw [h0] at hn
    cases hn
    exact h1
  | false =>
    rw [e] at h
    exact h2 n b cls h hn
theorem tabn_nil {K : PySem.W.Frag} {P : Value → Prop} : ∀ n ∈ ([] : List Str), ∀ cls, PySem.W.nsIn K mainGlobals n = some (some cls) → P cls := fun n h => nomatch h
theorem tabn_cons {K : PySem.W.Frag} {P : Value → Prop} {n0 : Str} {c0 : Value} {l : List Str} (h0 : PySem.W.nsIn K mainGlobals n0 = some (some c0)) (h1 : P c0) (h2 : ∀ n ∈ l, ∀ cls, PySem.W.nsIn K mainGlobals n = some (some cls) → P cls) :
    ∀ n ∈ n0 :: l, ∀ cls, PySem.W.nsIn K mainGlobals n = some (some cls) → P cls := fun n h cls hn => by
  rcases List.mem_cons.mp h with e | h
  · subst e
    rw [h0] at hn
    cases hn
    exact h1
  · exact h2 n h cls hn
theorem tabn_of {K : PySem.W.Frag} {P : Value → Prop} {l : List Str} (h : ∀ n ∈ l, ∀ cls, PySem.W.nsIn K mainGlobals n = some (some cls) → P cls) : ∀ n cls, decide (n ∈ l) = true → PySem.W.nsIn K mainGlobals n = some (some cls) → P cls := fun n cls hd hn => h n (of_decide_eq_true hd) cls hn
/-! folds -/
section
variable {S T R Y : Type}
/-- an invariant by the turn's number, and what the state is -/
theorem loop_foldI {step : S → Y → Co S S R} (P : Nat → S → Prop) (f : S → Y → S) : ∀ (ys : List Y) (n : Nat) (s : S), P n s → (∀ i s y, ys[i]? = some y → P (n + i) s → step s y = .go (f s y) ∧ P (n + i + 1) (f s y)) → (coLoop step s ys : Co S T R) = .go (ys.foldl f s) ∧ P (n + ys.length) (ys.foldl f s)
  | [], n, s, h, _ => ⟨rfl, h⟩
  | y :: ys, n, s, h, st => by
    obtain ⟨e1, h1⟩ := st 0 s y rfl h
    obtain ⟨e2, h2⟩ := loop_foldI P f ys (n + 1) (f s y) h1 fun i s z hz hp => by
      obtain ⟨e3, h3⟩ := st (i + 1) s z (by simpa using hz) (by rw [show n + (i + 1) = n + 1 + i by omega]; exact hp)
      exact ⟨e3, by rw [show n + 1 + i + 1 = n + (i + 1) + 1 by omega]; exact h3⟩
    refine ⟨by rw [loop_cons e1]; exact e2, ?_⟩
    rw [List.length_cons, show n + (ys.length + 1) = n + 1 + ys.length by omega]
    exact h2
def Out.bind {α β : Type} (o : Out α) (f : α → Out β) : Out β := match o with
  | .ok v => f v
  | .err e => .err e
  | .stk => .stk
def foldO (f : S → Y → Out S) : S → List Y → Out S
  | s, [] => .ok s
  | s, y :: ys => (f s y).bind fun s' => foldO f s' ys
theorem foldO_app (f : S → Y → Out S) : ∀ (ys zs : List Y) (s : S), foldO f s (ys ++ zs) = (foldO f s ys).bind fun s' => foldO f s' zs
  | [], _, _ => rfl
  | y :: ys, zs, s => by
    show (f s y).bind (fun s' => foldO f s' (ys ++ zs)) = ((f s y).bind fun s' => foldO f s' ys).bind _
    cases h : f s y with
    | ok v => exact foldO_app f ys zs v
    | err e => rfl
    | stk => rfl
/-- each turn may raise -/
theorem loop_foldO {step : S → Y → Co S S R} (P : Nat → S → Prop) (f : S → Y → Out S) : ∀ (ys : List Y) (n : Nat) (s : S), P n s → (∀ i s y, ys[i]? = some y → P (n + i) s → step s y = bndO (f s y) .go ∧ ∀ s', f s y = .ok s' → P (n + i + 1) s') → (coLoop step s ys : Co S T R) = bndO (foldO f s ys) .go
  | [], n, s, h, _ => rfl
  | y :: ys, n, s, h, st => by
    obtain ⟨e1, h1⟩ := st 0 s y rfl h
    show _ = bndO ((f s y).bind fun s' => foldO f s' ys) .go
    cases hf : f s y with
    | ok v =>
      rw [hf] at e1
      rw [loop_cons e1]
      exact loop_foldO P f ys (n + 1) v (h1 v hf) fun i s z hz hp => by
        obtain ⟨e3, h3⟩ := st (i + 1) s z (by simpa using hz) (by rw [show n + (i + 1) = n + 1 + i by omega]; exact hp)
        exact ⟨e3, fun s' hs => by rw [show n + 1 + i + 1 = n + (i + 1) + 1 by omega]; exact h3 s' hs⟩
    | err e =>
      rw [hf] at e1
      rw [loop_stop e1]
      rfl
    | stk =>
      rw [hf] at e1
      rw [loop_stop e1]
      rfl
end
end Sd

namespace Sd
open PySem PySem.Spec PyProof.Rows L2
/-! ### defs called from within a suite: they neither loop nor raise; the exception that is held at p, whatever its context -/
theorem RoomB.deeper {k : Nat} {A : Around} (r : RoomB (k + 1) A) (env : Env) : RoomB k (A.deeper env) := ⟨by
  have q := r.dp
  show A.depth + 1 + 3 * k + 5 < recursionLimit
  omega, by
  have q := r.un
  show A.units + 3 + 16 * k + 200 < cLine
  omega⟩
abbrev SpC := Addr × Obj → List V → Hp → VK → Prop
structure FnC (P : Program) (w : World) (K : PySem.W.Frag) (mg : Str → Option Value) (base : Heap) (k : Nat) (f : Addr) (fd : FuncData) (ps : List Str) (sp : SpC) : Prop where
  len : ∀ p vs H Q, sp p vs H Q → vs.length = ps.length
  run : ∀ (A : Around) (outer : List Env) (s : Shared) (H : Hp) (us : List Value) (vs : List V) (Q : VK) (p : Addr × Obj), RoomB k A → A.handled = some (.ref p.1) → L2H.PinOk outer H s p → Env0 P w K mg base A outer s H →
    BindsTo s fd ⟨us, []⟩ (ps.zip us) → Vals vs us → sp p vs H Q → codeAny (model P w) A (.call (.ref f) ⟨us, []⟩) (CR (L2.CX P w) outer P w H s Q E0) s
theorem fnC_of {P : Program} {w : World} {K : PySem.W.Frag} {mg : Str → Option Value} {base : Heap} {k : Nat} {x qual : Str} {st : Stmt} {f : Addr} {fd : FuncData} {N ps : List Str} {sp : SpC} (F : Fun K x qual st f fd) (S : FnScope N ps (defScope st)) (len : ∀ p vs H Q, sp p vs H Q → vs.length = ps.length)
    (body : ∀ (cdv : Value) (A : Around) (outer : List Env) (s : Shared) (H : Hp) (vs : List V) (Q : VK) (p : Addr × Obj), A.handled = some (.ref p.1) → RoomB k (A.deeper (envOfC qual (defScope st) s.heap.objs.size f cdv)) → sp p vs H Q →
      wS (L2H.cxH (L2.CX P w) P w K mg base N qual (defScope st) f cdv A outer s H E0 p) (defBody st) { nx := fun _ H' => Q .non H', rt := Q } (L2.start N vs) H) : FnC P w K mg base (k + 1) f fd ps sp := by
  obtain ⟨oc, od, kV, doc, pm, an, cdv, ct, osl, rfl, lk, hcd⟩ := F.ex
  refine ⟨len, fun A outer s H us vs Q p hr hh hpin e0 hb rv hsp => ?_⟩
  have kin : K.In s.heap := e0.mod.kin.keeps fun b o e => (e0.bs b o e).1
  have nolim : s.heap.NoLimit := e0.mod.nolimit.keeps fun b o e => (e0.bs b o e).1
  have hdep : A.depth < recursionLimit := by
    have q := hr.dp
    omega
  have kinds : ∀ y ∈ ps.zip us, (defScope st).names.lookup y.1 = some .local ∨ ((defScope st).names.lookup y.1 = some .cell ∧ ((cellsFrom (s.heap.objs.size + 1) (defScope st).names []).lookup y.1).isSome = true) := by
    intro y hy
    obtain ⟨n, v⟩ := y
    cases S.par n (List.of_mem_zip hy).1 with
    | inl q => exact .inl q
    | inr q => exact .inr ⟨q, PySem.W.cellsFrom_some _ _ _ (.inl q)⟩
  apply codeAny_call_function hdep (kin _ _ lk) rfl S.co S.gen rfl (PySem.W.codeRec_of kin hcd)
  apply hb
  apply wpAny_newFunctionEnv_cells S.kind kinds
  intro env he s1 call
  subst he
  refine ⟨nolim.keeps call.toInCall.keep, codeAny_func ?_⟩
  have I := L2H.inv_startH (CX := L2.CX P w) (P := P) (w := w) (E := E0) S hpin e0 (len _ _ _ _ hsp) rv call
  have b := body cdv A outer s H vs Q p hh (hr.deeper _) hsp
  refine wpAny_mono (b.run [] s1 I) ?_ fun e s' z => z
  intro fl s' z
  have fin : ∀ {σ : L2.St} {H' : Hp} {v : V} {u : Value}, Inv (L2H.cxH (L2.CX P w) P w K mg base N qual (defScope st) f cdv A outer s H E0 p) [] σ H' s' → RelV v u → Q v H' → CE outer P w H s Q u s' := fun J r q => ⟨_, _, J.os, J.bare, J.base, J.hok, r, q⟩
  cases fl with
  | ret u =>
    obtain ⟨v, σ, H', J, r, q⟩ := z
    exact fin J r q
  | next =>
    obtain ⟨σ, H', J, q⟩ := z
    exact fin (v := V.non) (u := Value.none) J rfl q
  | brk => exact (show False from let ⟨_, _, _, q⟩ := z; q).elim
  | cont => exact (show False from let ⟨_, _, _, q⟩ := z; q).elim
section
variable {X : Cx} {k : Nat} {f : Addr} {fd : FuncData} {ps : List Str} {sp : SpC} {x : Str} {q pos : Pos} {e : Expr} {es : List Expr} {t : TA} {p : Addr × Obj}
theorem run_fnC {pins : List (Addr × Obj)} {σ : L2.St} {H : Hp} {s : Shared} {Q : VK} {us : List Value} {vs : List V} (F : FnC X.prog X.w X.K X.mg X.base k f fd ps sp) (hr : RoomB k X.A) (hh : X.A.handled = some (.ref p.1)) (hp : p ∈ X.pn) (hb : Binds X.K fd ps [])
    (I : Inv X pins σ H s) (r : Vals vs us) (h : sp p vs H Q) : wpAny (model X.prog X.w) X.A (call (.ref f) us) (EP X pins σ Q) X.xe s := by
  have hl : us.length = ps.length := r.length.symm.trans (F.len _ _ _ _ h)
  have b := hb s us I.kIn ((congrArg List.length (List.append_nil us)).trans hl)
  rw [List.append_nil] at b
  obtain ⟨i1, i2, i3, i4, i5⟩ := I.pin p (List.mem_append_left _ hp)
  have pin : L2H.PinOk X.stack H s p := ⟨i1, i2, fun m => (List.mem_cons.mp (I.stkSub p.1 m)).elim i3 i4, i5⟩
  refine wpAny_call (codeAny_mono (F.run X.A X.stack s H us vs Q p hr hh pin I.env0 b r h) ?_)
  intro res s' z
  cases res with
  | error er => exact ps0 X σ pins H s er s' I z
  | ok fl =>
    cases fl with
    | ret u => exact I.after z
    | next => exact (show False from z).elim
    | brk => exact (show False from z).elim
    | cont => exact (show False from z).elim
theorem pe_callC (F : FnC X.prog X.w X.K X.mg X.base k f fd ps sp) (hr : RoomB k X.A) (hh : X.A.handled = some (.ref p.1)) (hp : p ∈ X.pn) (hg : Gl X x) (hm : X.mg x = some (.ref f)) (hk : PySem.W.keepIn X.K (.ref f) = true) (hb : Binds X.K fd ps []) (ha : PA X (e :: es) t)
    (hdb : (x == ("__debug__" : Str)) = false) (he : starEach (e :: es) X.env = (false, eval e X.env) :: starEach es X.env) (hpl : (backTo pos (starEach es X.env)).any (·.1) = false) : PE X (.Call (.Name x q) (e :: es) [] pos) (fun σ H Q => t σ H fun vs H1 => sp p vs H1 Q) := by
  constructor
  intro pins s σ H Q I h
  apply wpAny_Call_Name_kw
  apply ld_glob I hg hm _ hdb
  apply PySem.W.callWith_K (h₀ := X.base) I.ok.mod.kin hk _ he hpl
  exact thn (ha.run pos pins s σ H _ I h) fun us s1 ⟨vs, H1, I1, r, z⟩ => ⟨I1.kIn, run_fnC F hr hh hp hb I1 r z⟩
end
/-! arguments: data, or the exception that is held -/
inductive AKc where
  | d (x : D) | e (x : Exn)
inductive IsAc (K : PySem.W.Frag) (G : Hp) (p : Addr × Obj) : List V → List AKc → Prop
  | nil : IsAc K G p [] []
  | d {v : V} {x : D} {vs : List V} {as : List AKc} : Is K G v x → IsAc K G p vs as → IsAc K G p (v :: vs) (.d x :: as)
  | e {v : V} {x : Exn} {cls : Value} {vs : List V} {as : List AKc} : ExS K G v p.1 p.2.dict x.fs → p.2.cls = cls → (∃ ws, p.2.data = .fields ws) → PySem.W.nsIn K mainGlobals x.cls = some (some cls) → IsAc K G p vs as → IsAc K G p (v :: vs) (.e x :: as)
theorem IsAc.len {K : PySem.W.Frag} {G : Hp} {p : Addr × Obj} : ∀ {vs : List V} {as : List AKc}, IsAc K G p vs as → vs.length = as.length
  | _, _, .nil => rfl
  | _, _, .d _ t => congrArg (· + 1) t.len
  | _, _, .e _ _ _ _ t => congrArg (· + 1) t.len
def bOfc (p : Addr × Obj) : AKc → B
  | .d x => .d x
  | .e x => .exc p.1 p.2.dict x.fs
theorem stt_startC {K : PySem.W.Frag} {G H : Hp} {p : Addr × Obj} (ex : Ex G H) {vs : List V} {as : List AKc} (n : Nat) (h : IsAc K G p vs as) : Stt K H (as.map (bOfc p) ++ List.replicate n B.un) (vs.map some ++ List.replicate n none) G H := by
  have get : ∀ {vs : List V} {as : List AKc}, IsAc K G p vs as → ∀ {i : Nat} {b : B}, (as.map (bOfc p) ++ List.replicate n B.un)[i]? = some b → b ≠ .un →
      (∃ x v, b = .d x ∧ (vs.map some ++ List.replicate n none)[i]? = some (some v) ∧ Is K G v x) ∨ (∃ x v, b = .exc p.1 p.2.dict x ∧ (vs.map some ++ List.replicate n none)[i]? = some (some v) ∧ ExS K G v p.1 p.2.dict x) := by
    intro vs as h
    induction h with
    | nil =>
      intro i b e nb
      simp only [List.map_nil, List.nil_append, List.getElem?_replicate] at e
      split at e
      · exact absurd (Option.some.inj e).symm nb
      · cases e
    | @d v x vs as h1 h2 ih =>
      intro i b e nb
      cases i with
      | zero => exact .inl ⟨x, v, by simpa [bOfc] using e.symm, rfl, h1⟩
      | succ i => exact ih (by simpa using e) nb
    | @e v x cls vs as h1 h2 h3 h4 h5 ih =>
      intro i b e nb
      cases i with
      | zero => exact .inr ⟨x.fs, v, by simpa [bOfc] using e.symm, rfl, h1⟩
      | succ i => exact ih (by simpa using e) nb
  refine ⟨by simp [h.len], ex, fun i x e => ?_, fun i o pa e => ?_, fun i j p o o' pa pb e _ _ _ => ?_, fun i xs e => ?_, fun i xa xd xf e => ?_, .noT fun i x e => ?_⟩
  case refine_6 => rcases get h e (by simp) with ⟨y, v, e1, _⟩ | ⟨y, v, e1, _⟩ <;> cases e1
  · rcases get h e (by simp) with ⟨y, v, e1, e2, e3⟩ | ⟨y, v, e1, _⟩
    · cases e1
      exact ⟨v, e2, e3⟩
    · cases e1
  · rcases get h e (by simp) with ⟨y, v, e1, _⟩ | ⟨y, v, e1, _⟩ <;> cases e1
  · rcases get h e (by simp) with ⟨y, v, e1, _⟩ | ⟨y, v, e1, _⟩ <;> cases e1
  · rcases get h e (by simp) with ⟨y, v, e1, _⟩ | ⟨y, v, e1, _⟩ <;> cases e1
  · rcases get h e (by simp) with ⟨y, v, e1, _⟩ | ⟨y, v, e1, e2, e3⟩
    · cases e1
    · cases e1
      exact ⟨v, e2, e3⟩
def spCx (K : PySem.W.Frag) {A : Type} (enc : A → List AKc) (res : A → Res) : SpC := fun p vs H Q => ∃ (a : A) (G : Hp), Ex G H ∧ IsAc K G p vs (enc a) ∧ PostR K H G E0 Q (res a)
/-- which exceptions are among the arguments -/
def ExIn (X : Cx) (p : Addr × Obj) (as : List AKc) : Prop := ∀ x, AKc.e x ∈ as → HEx X p.1 x p.2.dict
theorem def_okH {P : Program} {w : World} {K : PySem.W.Frag} {mg : Str → Option Value} {base : Heap} {x qual : Str} {st : Stmt} {fa : Addr} {fd : FuncData} {N ps : List Str} {lv : Nat} {A R : Type} {encA : A → List AKc} {f : R → Res}
    (F : Fun K x qual st fa fd) (S : FnScope N ps (defScope st)) (g : Out R) (hg : rsOf f g = .stk ∨ rsOf f g = .v .non) (hlen : ∀ a, (encA a).length = ps.length) (k : A → Co Unit Empty R)
    (hb : ∀ a, ∀ (X : Cx) (p : Addr × Obj), X.prog = P → X.w = w → X.K = K → X.mg = mg → X.base = base → XOk lv N (defScope st) X → (X.A.handled = some (.ref p.1) ∧ p ∈ X.pn) → ExIn X p (encA a) →
      BC X E0 ((encA a).map (bOfc p) ++ List.replicate (N.length - (encA a).length) B.un) (defBody st) (fun s : Unit => List.replicate N.length B.un) (fun s : Empty => nomatch s) f (k a)) : FnC P w K mg base (lv + 1) fa fd ps (spCx K encA (fun a => rsOf f ((k a).out g))) := by
  refine fnC_of F S (fun p vs H Q h => ?_) (fun cdv Ar outer s H vs Q p hh hr h => ?_)
  · obtain ⟨a, G, _, h2, _⟩ := h
    rw [h2.len, hlen]
  · obtain ⟨a, G, h1, h2, h4⟩ := h
    have h4 : PostR K H G E0 Q (rsOf f ((k a).out g)) := h4
    generalize hX : L2H.cxH (L2.CX P w) P w K mg base N qual (defScope st) fa cdv Ar outer s H E0 p = X
    have ok : XOk lv N (defScope st) X := by
      subst hX
      exact ⟨hr, fun _ => rfl, rfl, rfl, S.nd, S.kind, rfl, rfl⟩
    have hK : X.K = K := by subst hX; rfl
    have hA : X.A.handled = some (.ref p.1) ∧ p ∈ X.pn ∧ X.calm = false ∧ X.pn = [p] := by
      subst hX
      exact ⟨hh, List.mem_singleton.mpr rfl, rfl, rfl⟩
    have ei : ExIn X p (encA a) := by
      intro y hy
      have : ∀ {vs : List V} {as : List AKc}, IsAc K G p vs as → AKc.e y ∈ as → HEx X p.1 y p.2.dict := by
        intro vs as h
        induction h with
        | nil => exact fun h => nomatch h
        | d _ _ ih =>
          intro h
          rcases List.mem_cons.mp h with e | e
          · cases e
          · exact ih e
        | e h1 h2 h3 h4 _ ih =>
          intro h
          rcases List.mem_cons.mp h with e | e
          · cases e
            exact ⟨p.2, [], _, hA.1, hA.2.2.1, hA.2.2.2, ⟨h2, rfl⟩, h3, by rw [hK]; exact h4⟩
          · exact ih e
      exact this h2 hy
    have b := hb a X p (by subst hX; rfl) (by subst hX; rfl) (by subst hX; rfl) (by subst hX; rfl) (by subst hX; rfl) ok ⟨hA.1, hA.2.1⟩ ei
    refine b H G _ G H _ ?_ (Grow.refl h1) ?_
    · rw [hK]
      have q := stt_startC h1 (N.length - (encA a).length) h2
      unfold L2.start
      rw [h2.len]
      exact q
    · rw [hK]
      cases hka : k a with
      | go u =>
        rw [hka] at h4
        have h4' : PostR K H G E0 Q (rsOf f g) := h4
        rcases hg with hg | hg
        · rw [hg] at h4'
          exact (show False from h4').elim
        · rw [hg] at h4'
          exact fun σ' G' H' _ _ gr => h4' .non G' H' gr .non
      | brk b => exact nomatch b
      | ret r =>
        rw [hka] at h4
        exact h4
/-! the calls -/
structure KnC (P : Program) (w : World) (K : PySem.W.Frag) (mg : Str → Option Value) (base : Heap) (x : Str) (lv : Nat) (sp : SpC) : Prop where
  ex : ∃ (f : Addr) (fd : FuncData) (ps : List Str), FnC P w K mg base lv f fd ps sp ∧ mg x = some (.ref f) ∧ PySem.W.keepIn K (.ref f) = true ∧ Binds K fd ps []
abbrev KnCX (X : Cx) (x : Str) (lv : Nat) (sp : SpC) : Prop := KnC X.prog X.w X.K X.mg X.base x lv sp
def EvAc (X : Cx) (p : Addr × Obj) (Γ : List B) (es : List Expr) (as : List AKc) : Prop :=
  ∀ F σ G H, Stt X.K F Γ σ G H → ∀ Q : List V → Hp → Prop, (∀ vs G' H', Grow G H G' H' → IsAc X.K G' p vs as → Q vs H') → wA X es σ H Q
section
variable {X : Cx} {Γ : List B} {e : Expr} {es : List Expr} {p : Addr × Obj} {x n y : Str} {np pos py : Pos} {as : List AKc} {lv lv' : Nat} {N : List Str} {sc : Scope} {A R : Type} {enc : A → List AKc} {f : R → Res} {r : A → Out R}
theorem eac_nil : EvAc X p Γ [] [] := fun F σ G H s Q q => ⟨fun pos pins sh I => pa_nil.run pos pins sh σ H Q I (q [] G H (.refl s.sub) .nil)⟩
theorem eac_d {d : D} (he : ED X Γ e d) (hs : EvAc X p Γ es as) (hst : starEach (e :: es) X.env = (false, eval e X.env) :: starEach es X.env := by exact starEach_ns rfl) : EvAc X p Γ (e :: es) (.d d :: as) := fun F σ G H s Q q =>
  ⟨fun pos pins sh I => (pa_cons pe_w pa_w hst).run pos pins sh σ H Q I (he F σ G H s _ fun v G1 H1 g1 i1 => hs F σ G1 H1 (s.grow g1) _ fun vs G2 H2 g2 i2 => q (v :: vs) G2 H2 (g1.trans g2) (.d (i1.up g2.g) i2))⟩
theorem IsAc.up {K : PySem.W.Frag} {G G' : Hp} {p : Addr × Obj} (ex : Ex G G') : ∀ {vs : List V} {as : List AKc}, IsAc K G p vs as → IsAc K G' p vs as
  | _, _, .nil => .nil
  | _, _, .d h t => .d (h.up ex) (t.up ex)
  | _, _, .e h1 h2 h3 h4 t => .e (h1.up ex) h2 h3 h4 (t.up ex)
/-- the name of the exception that is held -/
theorem eac_e (i : Nat) {z : Exn} {d : Option Addr} (hX : XOk lv N sc X) (hn : N[i]? = some y) (hv : Vis sc y) (hE : HEx X p.1 z d) (hp : ∀ o pn, X.pn = (p.1, o) :: pn → o = p.2) (h : Γ[i]? = some (.exc p.1 d z.fs)) (hs : EvAc X p Γ es as)
    (hd : (y == ("__debug__" : Str)) = false := by decide) (hcd : (y == ("__classdict__" : Str)) = false := by decide) (hst : starEach (.Name y py :: es) X.env = (false, eval (.Name y py) X.env) :: starEach es X.env := by exact starEach_ns rfl) : EvAc X p Γ (.Name y py :: es) (.e z :: as) := fun F σ G H s Q q =>
  ⟨fun pos pins sh I => (pa_cons (pe_exv i hX hn hv hd hcd) pa_w hst).run pos pins sh σ H Q I (by
    obtain ⟨oe, pn, cls, w1, w2, w3, hz, hf, hcls⟩ := hE
    have e := hp _ _ w3
    subst e
    obtain ⟨v, h1, h2⟩ := s.exc i _ _ _ h
    refine ⟨v, h1, hs F σ G H s _ fun vs G2 H2 g2 i2 => q (v :: vs) G2 H2 g2 (.e ?_ hz.1 hf hcls i2)⟩
    have hd' : p.2.dict = d := hz.2
    rw [hd']
    exact h2.up g2.g)⟩
/-- a def called in a suite: it comes to a value for certain -/
theorem ed_callC (a : A) (d : R) {z : R → D} (hk : KnCX X x lv (spCx X.K enc (fun a => rsOf f (r a)))) (hX : XOk lv' N sc X) (hl : lv ≤ lv') (hp : X.A.handled = some (.ref p.1) ∧ p ∈ X.pn) (hg : Gl X x) (ha : EvAc X p Γ (e :: es) (enc a)) (hf : ∀ v, f v = .v (z v)) (hx : (r a).IsOk)
    (hdb : (x == ("__debug__" : Str)) = false := by decide) (he : starEach (e :: es) X.env = (false, eval e X.env) :: starEach es X.env := by exact starEach_ns rfl) (hpl : (backTo pos (starEach es X.env)).any (·.1) = false := by exact plain_ok rfl) : ED X Γ (.Call (.Name x np) (e :: es) [] pos) (z ((r a).get d)) := by
  obtain ⟨fa, fd, ps, h1, h2, h3, h4⟩ := hk.ex
  refine ed_of (pe_callC h1 (hX.room.mono hl) hp.1 hp.2 hg h2 h3 h4 pa_w hdb he hpl) fun F σ G H s Q q => ha F σ G H s _ fun vs G1 H1 g1 i1 => ⟨a, G1, g1.s, i1, ?_⟩
  show PostR _ _ _ _ _ (rsOf f (r a))
  rw [rsOf_ok d hx, hf]
  exact fun v G2 H2 g2 i2 => q v G2 H2 (g1.trans g2) i2
end
end Sd

namespace Sd
open PySem PySem.Spec PyProof.Rows L2
/-! ### dicts of one's own, by texts -/
/-- d[k] = x -/
def putS {τ : Type} (ks : List (List Nat × τ)) (k : List Nat) (x : τ) : List (List Nat × τ) := if decide (k ∈ ks.map (·.1)) = true then ks.map (fun z => if z.1 = k then (z.1, x) else z) else ks ++ [(k, x)]
def getS {τ : Type} (ks : List (List Nat × τ)) (k : List Nat) : Option τ := (ks.find? fun z => decide (z.1 = k)).map (·.2)
section
variable {K : PySem.W.Frag} {G : Hp} {τ : Type} {enc : τ → D}
theorem encKs_cons {z : List Nat × τ} {ks : List (List Nat × τ)} : encKs enc (z :: ks) = (.inr (S z.1), enc z.2) :: encKs enc ks := rfl
theorem isKV_mem : ∀ {vs : List (Key × V)} {ks : List (List Nat × τ)}, IsKV K G vs (encKs enc ks) → ∀ k : List Nat, (valV vs (.inr (S k) : Key)).isSome = decide (k ∈ ks.map (·.1))
  | _, [], h, k => by
    cases h
    rfl
  | _, z :: ks, h, k => by
    rw [encKs_cons] at h
    cases h with
    | @cons _ v vs _ _ h0 h1 h2 =>
      have ih := isKV_mem h2 k
      by_cases e : z.1 = k
      · rw [valV_pos (by show (Sum.inr (S z.1) : Key) = _; rw [e])]
        show true = _
        exact (decide_eq_true (by rw [List.map_cons, e]; exact List.mem_cons_self)).symm
      · rw [valV_neg (by show ¬ (Sum.inr (S z.1) : Key) = _; intro w; exact e (S_inj.mp (Sum.inr.inj w))), ih]
        rw [List.map_cons]
        exact decide_eq_decide.mpr ⟨fun h => List.mem_cons_of_mem _ h, fun h => (List.mem_cons.mp h).resolve_left fun w => e w.symm⟩
theorem isKV_get : ∀ {vs : List (Key × V)} {ks : List (List Nat × τ)}, IsKV K G vs (encKs enc ks) → ∀ {k : List Nat} {x : τ}, getS ks k = some x → ∃ v, valV vs (.inr (S k) : Key) = some v ∧ Is K G v (enc x)
  | _, [], h, k, x, e => by cases e
  | _, z :: ks, h, k, x, e => by
    rw [encKs_cons] at h
    cases h with
    | @cons _ v vs _ _ h0 h1 h2 =>
      unfold getS at e
      by_cases ez : z.1 = k
      · rw [List.find?_cons_of_pos (p := fun z : List Nat × τ => decide (z.1 = k)) (decide_eq_true ez)] at e
        cases e
        exact ⟨v, valV_pos (by show (Sum.inr (S z.1) : Key) = _; rw [ez]), h1⟩
      · rw [List.find?_cons_of_neg (p := fun z : List Nat × τ => decide (z.1 = k)) (by simpa using ez)] at e
        obtain ⟨w, k1, k2⟩ := isKV_get h2 (k := k) (x := x) e
        exact ⟨w, (valV_neg (by show ¬ (Sum.inr (S z.1) : Key) = _; intro w; exact ez (S_inj.mp (Sum.inr.inj w)))).trans k1, k2⟩
theorem isKV_snoc : ∀ {vs : List (Key × V)} {ds : List (Key × D)} {k : Key} {v : V} {d : D}, IsKV K G vs ds → KeyOk k → Is K G v d → IsKV K G (vs ++ [(k, v)]) (ds ++ [(k, d)])
  | _, [], k, v, d, h, hk, hv => by
    cases h
    exact .cons hk hv .nil
  | _, z :: ds, k, v, d, h, hk, hv => by
    cases h with
    | cons h0 h1 h2 => exact .cons h0 h1 (isKV_snoc h2 hk hv)
theorem isKV_repl {k : List Nat} {w : V} {x : τ} (hw : Is K G w (enc x)) : ∀ {vs : List (Key × V)} {ks : List (List Nat × τ)}, IsKV K G vs (encKs enc ks) → IsKV K G (vs.map fun kv => if kv.1 = (.inr (S k) : Key) then (kv.1, w) else kv) (encKs enc (ks.map fun z => if z.1 = k then (z.1, x) else z))
  | _, [], h => by
    cases h
    exact .nil
  | _, z :: ks, h => by
    rw [encKs_cons] at h
    cases h with
    | @cons _ v vs _ _ h0 h1 h2 =>
      have ih := isKV_repl (k := k) hw h2
      rw [List.map_cons, List.map_cons, encKs_cons]
      by_cases e : z.1 = k
      · rw [if_pos (by show (Sum.inr (S z.1) : Key) = _; rw [e]), if_pos e]
        exact .cons h0 hw ih
      · rw [if_neg (by show ¬ (Sum.inr (S z.1) : Key) = _; intro w; exact e (S_inj.mp (Sum.inr.inj w))), if_neg e]
        exact .cons h0 h1 ih
theorem isKV_put {k : List Nat} {w : V} {x : τ} {vs : List (Key × V)} {ks : List (List Nat × τ)} (h : IsKV K G vs (encKs enc ks)) (hk : StrOk k) (hw : Is K G w (enc x)) : IsKV K G (putK vs (.inr (S k) : Key) w) (encKs enc (putS ks k x)) := by
  have m := isKV_mem h k
  unfold putK putS
  rw [valV_any, m]
  cases decide (k ∈ ks.map (·.1)) with
  | true =>
    rw [if_pos rfl, if_pos rfl]
    exact isKV_repl hw h
  | false =>
    rw [if_neg Bool.false_ne_true, if_neg Bool.false_ne_true]
    have e : encKs enc (ks ++ [(k, x)]) = encKs enc ks ++ [(.inr (S k), enc x)] := by
      unfold encKs
      rw [List.map_append]
      rfl
    rw [e]
    exact isKV_snoc h ⟨k, rfl, hk⟩ hw
theorem isKV_len : ∀ {vs : List (Key × V)} {ds : List (Key × D)}, IsKV K G vs ds → vs.length = ds.length
  | _, [], h => by cases h; rfl
  | _, _ :: ds, h => by cases h with | cons _ _ h => exact congrArg (· + 1) (isKV_len h)
theorem OwnIs.dct {K : PySem.W.Frag} {G : Hp} {ds : List (Key × D)} {u : HO} (h : OwnIs K G (.dct ds) u) : ∃ vs, u = .dK vs ∧ IsKV K G vs ds := by
  cases u with
  | dK vs => exact ⟨vs, rfl, h⟩
  | _ => exact h.elim
theorem Is.keyS {v : V} {l : List Nat} (h : Is K G v (.str l)) : v = kV (.inr (S l)) ∧ StrOk l := by
  cases h with
  | str _ k => exact ⟨rfl, k⟩
end
section
variable {X : Cx} {E : XK} {Γ : List B} {S T R : Type} {Γs : S → List B} {Γb : T → List B} {f : R → Res} {rest : List Stmt} {pos py apos cpos spos : Pos} {lv : Nat} {N : List Str} {sc : Scope} {y : Str} {e ke : Expr} {τ : Type} {enc : τ → D} {pa : Option Addr} {ks : List (List Nat × τ)} {k : List Nat}
theorem eo_dct0 : EO X Γ (.Dict [] [] pos) (.dct (encKs enc [])) := eo_of pe_dnewK fun F σ G H s Q q p hp => q p _ G (upd H p (.dK [])) (Grow.lay s.sub hp) upd_same (Evl.fresh_back s.sub hp) hp .nil
theorem ev_inDk (i : Nat) (enc : τ → D) (h : Γ[i]? = some (B.own (.dct (encKs enc ks)) pa)) (he : ED X Γ ke (.str k)) : EvD X.K Γ (tDIn (wE X ke) (tVar i)) (.bl (decide (k ∈ ks.map (·.1)))) := fun F σ G H s Q q => he F σ G H s _ fun v G1 H1 g1 i1 => by
  obtain ⟨p, u, h1, h2, h3, h4, h5, _⟩ := (s.grow g1).own i _ _ h
  obtain ⟨vs, rfl, iv⟩ := h5.dct
  obtain ⟨rfl, _⟩ := i1.keyS
  refine ⟨_, h1, p, _, rfl, .k h2, ?_⟩
  rw [isKV_mem iv]
  exact q _ G1 H1 g1 (.bl _)
theorem ed_inDk (i : Nat) (enc : τ → D) (hX : XOk lv N sc X) (hn : N[i]? = some y) (hl : Vis sc y) (h : Γ[i]? = some (B.own (.dct (encKs enc ks)) pa)) (he : ED X Γ ke (.str k))
    (hm : behindInMarks .In (.Name y py) = false := by first | exact nomark _ | with_unfolding_all rfl) (hd : (y == ("__debug__" : Str)) = false := by decide) (hcd : (y == ("__classdict__" : Str)) = false := by decide) : ED X Γ (.Compare ke [.In] [.Name y py] pos) (.bl (decide (k ∈ ks.map (·.1)))) :=
  ed_of (pe_cmp (pc_din (by have := room64 hX.room; omega) pe_w (pe_var (hX.nm hn) (hX.vs hl) hd hcd)) hm) (ev_inDk i enc h he)
theorem et_inDk (i : Nat) (enc : τ → D) (hX : XOk lv N sc X) (hn : N[i]? = some y) (hl : Vis sc y) (h : Γ[i]? = some (B.own (.dct (encKs enc ks)) pa)) (he : ED X Γ ke (.str k))
    (hm : behindInMarks .In (.Name y py) = false := by first | exact nomark _ | with_unfolding_all rfl) (hd : (y == ("__debug__" : Str)) = false := by decide) (hcd : (y == ("__classdict__" : Str)) = false := by decide) : ET X Γ (.Compare ke [.In] [.Name y py] pos) (decide (k ∈ ks.map (·.1))) :=
  et_of (pt_cmp (pc_din (by have := room64 hX.room; omega) pe_w (pe_var (hX.nm hn) (hX.vs hl) hd hcd)) hm) (ev_tB (ev_inDk i enc h he))
theorem ev_ninDk (i : Nat) (enc : τ → D) (h : Γ[i]? = some (B.own (.dct (encKs enc ks)) pa)) (he : ED X Γ ke (.str k)) : EvD X.K Γ (tDNotIn (wE X ke) (tVar i)) (.bl (!decide (k ∈ ks.map (·.1)))) := fun F σ G H s Q q => he F σ G H s _ fun v G1 H1 g1 i1 => by
  obtain ⟨p, u, h1, h2, h3, h4, h5, _⟩ := (s.grow g1).own i _ _ h
  obtain ⟨vs, rfl, iv⟩ := h5.dct
  obtain ⟨rfl, _⟩ := i1.keyS
  refine ⟨_, h1, p, _, rfl, .k h2, ?_⟩
  rw [isKV_mem iv]
  exact q _ G1 H1 g1 (.bl _)
theorem ed_ninDk (i : Nat) (enc : τ → D) (hX : XOk lv N sc X) (hn : N[i]? = some y) (hl : Vis sc y) (h : Γ[i]? = some (B.own (.dct (encKs enc ks)) pa)) (he : ED X Γ ke (.str k))
    (hm : behindInMarks .NotIn (.Name y py) = false := by first | exact nomark _ | with_unfolding_all rfl) (hd : (y == ("__debug__" : Str)) = false := by decide) (hcd : (y == ("__classdict__" : Str)) = false := by decide) : ED X Γ (.Compare ke [.NotIn] [.Name y py] pos) (.bl (!decide (k ∈ ks.map (·.1)))) :=
  ed_of (pe_cmp (pc_dnotin (by have := room64 hX.room; omega) pe_w (pe_var (hX.nm hn) (hX.vs hl) hd hcd)) hm) (ev_ninDk i enc h he)
theorem et_ninDk (i : Nat) (enc : τ → D) (hX : XOk lv N sc X) (hn : N[i]? = some y) (hl : Vis sc y) (h : Γ[i]? = some (B.own (.dct (encKs enc ks)) pa)) (he : ED X Γ ke (.str k))
    (hm : behindInMarks .NotIn (.Name y py) = false := by first | exact nomark _ | with_unfolding_all rfl) (hd : (y == ("__debug__" : Str)) = false := by decide) (hcd : (y == ("__classdict__" : Str)) = false := by decide) : ET X Γ (.Compare ke [.NotIn] [.Name y py] pos) (!decide (k ∈ ks.map (·.1))) :=
  et_of (pt_cmp (pc_dnotin (by have := room64 hX.room; omega) pe_w (pe_var (hX.nm hn) (hX.vs hl) hd hcd)) hm) (ev_tB (ev_ninDk i enc h he))
/-- y[k] -/
theorem ed_getDk (i : Nat) (enc : τ → D) (dflt : τ) (hX : XOk lv N sc X) (hn : N[i]? = some y) (hl : Vis sc y) (h : Γ[i]? = some (B.own (.dct (encKs enc ks)) pa)) (he : ED X Γ ke (.str k)) (hk : (getS ks k).isSome = true) (hs : NoSl ke := by exact fun _ _ => rfl)
    (hd : (y == ("__debug__" : Str)) = false := by decide) (hcd : (y == ("__classdict__" : Str)) = false := by decide) : ED X Γ (.Subscript (.Name y py) ke pos) (enc ((getS ks k).getD dflt)) := by
  obtain ⟨x, hx⟩ := Option.isSome_iff_exists.mp hk
  rw [hx]
  exact ed_of (pe_dget (by have := room64 hX.room; omega) (pe_var (hX.nm hn) (hX.vs hl) hd hcd) pe_w hs) fun F σ G H s Q q => by
    obtain ⟨p, u, h1, h2, h3, h4, h5, _⟩ := s.own i _ _ h
    refine ⟨_, h1, he F σ G H s _ fun v G1 H1 g1 i1 => ?_⟩
    obtain ⟨vs, rfl, iv⟩ := h5.dct
    obtain ⟨rfl, _⟩ := i1.keyS
    obtain ⟨w, k1, k2⟩ := isKV_get iv hx
    exact ⟨p, w, rfl, by rw [← k1]; exact .k (g1.h _ _ h2), q w G1 H1 g1 (k2.up g1.g)⟩
/-- y[k] = e -/
theorem c_dset (i : Nat) (enc : τ → D) {x : τ} {c : List (List Nat × τ) → Co S T R} (hX : XOk lv N sc X) (hn : N[i]? = some y) (hl : Vis sc y) (h : Γ[i]? = some (B.own (.dct (encKs enc ks)) pa)) (he : ED X Γ e (enc x)) (hk : ED X Γ ke (.str k)) (hz : ks.length < sizeLine)
    (hr : ∀ zs, zs = putS ks k x → BC X E (Γ.set i (.own (.dct (encKs enc zs)) pa)) rest Γs Γb f (c zs))
    (hs : swapsWith e (some (.Subscript (.Name y py) ke spos)) pos.line X.env = pure false := by exact sw_ns rfl) (hd : (y == ("__debug__" : Str)) = false := by decide) (hcd : (y == ("__classdict__" : Str)) = false := by decide) :
    BC X E Γ (.Assign [.Subscript (.Name y py) ke spos] e pos :: rest) Γs Γb f (bnd (putS ks k x) c) := fun F G0 σ G H D s gr post => by
  obtain ⟨p, u, h1, h2, h3, h4, h5, _⟩ := s.own i _ _ h
  refine w_cons (ps_dput (by have := room64 hX.room; omega) (pe_var (hX.nm hn) (hX.vs hl) hd hcd) pe_w pe_w hs) (he F σ G H s _ fun v G1 H1 g1 i1 => ⟨_, h1, hk F σ G1 H1 (s.grow g1) _ fun w G2 H2 g2 i2 => ?_⟩)
  obtain ⟨vs, rfl, iv⟩ := h5.dct
  obtain ⟨rfl, ok⟩ := i2.keyS
  have g3 := g1.trans g2
  have iv2 : IsKV X.K G2 vs (encKs enc ks) := IsKV.mono g3.g _ vs iv
  have s2 := (s.grow g3).mut (u := .dK (putK vs (.inr (Sd.S k)) v)) (o' := .dct (encKs enc (putS ks k x))) h h1 (isKV_put iv2 ok (i1.up g2.g))
  refine ⟨p, _, rfl, .k (g3.h _ _ h2) (by rw [isKV_len iv]; unfold encKs; rw [List.length_map]; exact hz), ?_⟩
  have g4 := gr.trans g3
  refine hr (putS ks k x) rfl F G0 σ G2 _ D s2 ⟨g4.g, fun b o eo => ?_, s2.sub, g4.f⟩ (post.up g3.g)
  rw [upd_ne (ne_of_none eo h4)]
  exact g4.h b o eo
end
end Sd

namespace Sd
open PySem PySem.Spec PyProof.Rows L2
/-! ### a def that is handed a thing of the caller's own, and changes it -/
inductive AKm where
  | d (x : D) | o (o : OO)
inductive IsAm (K : PySem.W.Frag) (G H : Hp) (p : Addr) : List V → List AKm → Prop
  | nil : IsAm K G H p [] []
  | d {v : V} {x : D} {vs : List V} {as : List AKm} : Is K G v x → IsAm K G H p vs as → IsAm K G H p (v :: vs) (.d x :: as)
  | o {u : HO} {o : OO} {vs : List V} {as : List AKm} : H p = some u → OwnIs K G o u → IsAm K G H p vs as → IsAm K G H p (.ref p :: vs) (.o o :: as)
theorem IsAm.len {K : PySem.W.Frag} {G H : Hp} {p : Addr} : ∀ {vs : List V} {as : List AKm}, IsAm K G H p vs as → vs.length = as.length
  | _, _, .nil => rfl
  | _, _, .d _ t => congrArg (· + 1) t.len
  | _, _, .o _ _ t => congrArg (· + 1) t.len
def bOfm (p : Addr) : AKm → B
  | .d x => .d x
  | .o o => .own o (some p)
def noO : List AKm → Bool
  | [] => true
  | .d _ :: as => noO as
  | .o _ :: _ => false
def oneO : List AKm → Bool
  | [] => true
  | .d _ :: as => oneO as
  | .o _ :: as => noO as
theorem noO_un {p : Addr} {n : Nat} : ∀ {as : List AKm}, noO as = true → ∀ {i : Nat} {o : OO} {pa : Option Addr}, (as.map (bOfm p) ++ List.replicate n B.un)[i]? ≠ some (B.own o pa)
  | [], _, i, o, pa => by
    simp only [List.map_nil, List.nil_append, List.getElem?_replicate]
    split <;> simp
  | .d x :: as, h, 0, o, pa => by simp [bOfm]
  | .d x :: as, h, i + 1, o, pa => by
    have := noO_un (p := p) (n := n) (as := as) h (i := i) (o := o) (pa := pa)
    simpa using this
  | .o _ :: _, h, _, _, _ => by cases h
theorem oneO_un {p : Addr} {n : Nat} : ∀ {as : List AKm}, oneO as = true → ∀ {i j : Nat} {o o' : OO} {pa pb : Option Addr}, (as.map (bOfm p) ++ List.replicate n B.un)[i]? = some (B.own o pa) → (as.map (bOfm p) ++ List.replicate n B.un)[j]? = some (B.own o' pb) → i = j
  | [], h, i, j, o, o', pa, pb, e1, e2 => absurd e1 (noO_un (p := p) (as := []) rfl)
  | .d x :: as, h, 0, j, o, o', pa, pb, e1, e2 => by simp [bOfm] at e1
  | .d x :: as, h, i + 1, 0, o, o', pa, pb, e1, e2 => by simp [bOfm] at e2
  | .d x :: as, h, i + 1, j + 1, o, o', pa, pb, e1, e2 => congrArg (· + 1) (oneO_un (p := p) (n := n) (as := as) h (by simpa using e1) (by simpa using e2))
  | .o _ :: as, h, 0, 0, o, o', pa, pb, e1, e2 => rfl
  | .o _ :: as, h, i + 1, j, o, o', pa, pb, e1, e2 => absurd (by simpa using e1) (noO_un (p := p) (n := n) (as := as) h)
  | .o _ :: as, h, i, j + 1, o, o', pa, pb, e1, e2 => absurd (by simpa using e2) (noO_un (p := p) (n := n) (as := as) h)
theorem stt_startM {K : PySem.W.Frag} {G H : Hp} {p : Addr} (ex : Ex G H) (np : G p = none) {vs : List V} {as : List AKm} (n : Nat) (h : IsAm K G H p vs as) (one : oneO as = true) : Stt K (dl H p) (as.map (bOfm p) ++ List.replicate n B.un) (vs.map some ++ List.replicate n none) G H := by
  have get : ∀ {vs : List V} {as : List AKm}, IsAm K G H p vs as → ∀ {i : Nat} {b : B}, (as.map (bOfm p) ++ List.replicate n B.un)[i]? = some b → b ≠ .un →
      (∃ x v, b = .d x ∧ (vs.map some ++ List.replicate n none)[i]? = some (some v) ∧ Is K G v x) ∨ (∃ o u, b = .own o (some p) ∧ (vs.map some ++ List.replicate n none)[i]? = some (some (.ref p)) ∧ H p = some u ∧ OwnIs K G o u) := by
    intro vs as h
    induction h with
    | nil =>
      intro i b e nb
      simp only [List.map_nil, List.nil_append, List.getElem?_replicate] at e
      split at e
      · exact absurd (Option.some.inj e).symm nb
      · cases e
    | @d v x vs as h1 h2 ih =>
      intro i b e nb
      cases i with
      | zero => exact .inl ⟨x, v, by simpa [bOfm] using e.symm, rfl, h1⟩
      | succ i => exact ih (by simpa using e) nb
    | @o u o vs as h1 h2 h3 ih =>
      intro i b e nb
      cases i with
      | zero => exact .inr ⟨o, u, by simpa [bOfm] using e.symm, rfl, h1, h2⟩
      | succ i => exact ih (by simpa using e) nb
  refine ⟨by simp [h.len], ex, fun i x e => ?_, fun i o pa e => ?_, fun i j q o o' pa pb e1 e2 _ _ => ?_, fun i xs e => ?_, fun i xa xd xf e => ?_, .noT fun i x e => ?_⟩
  case refine_6 => rcases get h e (by simp) with ⟨y, v, e1, _⟩ | ⟨o', u, e1, _⟩ <;> cases e1
  · rcases get h e (by simp) with ⟨y, v, e1, e2, e3⟩ | ⟨o, u, e1, _⟩
    · cases e1
      exact ⟨v, e2, e3⟩
    · cases e1
  · rcases get h e (by simp) with ⟨y, v, e1, _⟩ | ⟨o', u, e1, e2, e3, e4⟩
    · cases e1
    · cases e1
      exact ⟨p, u, e2, e3, np, dl_self, e4, fun a z => (Option.some.inj z).symm⟩
  · exact oneO_un one e1 e2
  · rcases get h e (by simp) with ⟨y, v, e1, _⟩ | ⟨o', u, e1, _⟩ <;> cases e1
  · rcases get h e (by simp) with ⟨y, v, e1, _⟩ | ⟨o', u, e1, _⟩ <;> cases e1
def resM {τ μ : Type} (enc : τ → D) (g : μ → OO) (p : Addr) : τ × μ → Res := fun z => .m (enc z.1) p (g z.2)
def spM (K : PySem.W.Frag) {A τ μ : Type} (enc : A → List AKm) (encR : τ → D) (g : μ → OO) (r : A → Out (τ × μ)) : Sp := fun vs H Q E => ∃ (a : A) (G : Hp) (p : Addr), Ex G H ∧ G p = none ∧ IsAm K G H p vs (enc a) ∧ PostR K (dl H p) G E Q (rsOf (resM encR g p) (r a))
theorem dl_sub {H : Hp} {p : Addr} : Ex (dl H p) H := fun b o e => by
  by_cases hb : b = p
  · rw [hb, dl_self] at e
    cases e
  · rw [dl_ne hb] at e
    exact e
theorem Grow.startM {G H : Hp} {p : Addr} (ex : Ex G H) : Grow G (dl H p) G H := ⟨Evl.Ex.refl _, dl_sub, ex, fun _ _ _ h => h⟩
theorem Grow.transM {G0 F G H G' H' : Hp} {p : Addr} (a : Grow G0 F G H) (fp : F p = none) (b : Grow G (dl H p) G' H') : Grow G0 F G' H' := by
  have up : ∀ b o, F b = some o → dl H p b = some o := fun b o e => by
    rw [dl_ne (ne_of_none e fp)]
    exact a.h b o e
  exact ⟨a.g.trans b.g, fun b' o e => b.h b' o (up b' o e), b.s, fun b' o e n => b.f b' o (up b' o e) (a.f b' o e n)⟩
/-- the thing in a slot was changed elsewhere -/
theorem Stt.growM {K : PySem.W.Frag} {F : Hp} {Γ : List B} {σ : L2.St} {G H G' H' : Hp} {p : Addr} {u : HO} {o o' : OO} {pa : Option Addr} (s : Stt K F Γ σ G H) {j : Nat} (e : Γ[j]? = some (B.own o pa)) (hs : σ[j]? = some (some (V.ref p))) (g : Grow G (dl H p) G' H') (hp : H' p = some u) (n : G' p = none) (ho : OwnIs K G' o' u) :
    Stt K F (Γ.set j (.own o' pa)) σ G' H' := by
  obtain ⟨q, w, h1, h2, h3, h5, _, h6⟩ := s.own j o pa e
  rw [hs] at h1
  cases h1
  have hl : j < Γ.length := (List.getElem?_eq_some_iff.mp e).1
  have ne : ∀ {i : Nat} {b : B}, (∀ o'' pb, b ≠ .own o'' pb) → (Γ.set j (B.own o' pa))[i]? = some b → j ≠ i := fun {i b} hb e z => by
    subst z
    rw [List.getElem?_set_self hl] at e
    exact hb _ _ (Option.some.inj e).symm
  have back : ∀ {i : Nat} {o1 : OO} {pb : Option Addr}, (Γ.set j (B.own o' pa))[i]? = some (B.own o1 pb) → ∃ o2 pc, Γ[i]? = some (B.own o2 pc) := fun {i o1 pb} e' => by
    by_cases hj : j = i
    · subst hj
      exact ⟨o, pa, e⟩
    · rw [List.getElem?_set_ne hj] at e'
      exact ⟨o1, pb, e'⟩
  refine ⟨by rw [List.length_set]; exact s.len, g.s, fun i y e' => ?_, fun i o1 pb e' => ?_, fun i k q o1 o2 pb pc e1 e2 e3 e4 => ?_, fun i xs e' => ?_, fun i xa xd xf e' => ?_, s.tre.reown e _ (fun _ e => nomatch e) fun i x p' qs ei a => ?_⟩
  case refine_6 =>
    have n := s.tre.sep i x p' qs ei a j o pa p e hs
    exact TreAt.grow (a.map (Evl.Ex.refl _) fun b hb w' k1 k2 k3 => ⟨by
      rw [dl_ne fun z => n (by rw [← z]; exact hb)]
      exact k1, k2, k3⟩) g
  · have hj := ne (by simp) e'
    rw [List.getElem?_set_ne hj] at e'
    obtain ⟨v, k1, k2⟩ := s.dat i y e'
    exact ⟨v, k1, k2.up g.g⟩
  · by_cases hj : j = i
    · subst hj
      rw [List.getElem?_set_self hl] at e'
      cases e'
      exact ⟨p, u, hs, hp, n, h5, ho, h6⟩
    · rw [List.getElem?_set_ne hj] at e'
      obtain ⟨q, w', k1, k2, k3, k4, k5, k6⟩ := s.own i o1 pb e'
      have hne : q ≠ p := fun z => by
        subst z
        exact hj (s.sep j i q o o1 pa pb e e' hs k1)
      have k2' : dl H p q = some w' := by
        rw [dl_ne hne]
        exact k2
      exact ⟨q, w', k1, g.h _ _ k2', g.f _ _ k2' k3, k4, k5.up g.g, k6⟩
  · obtain ⟨o3, p3, e5⟩ := back e1
    obtain ⟨o4, p4, e6⟩ := back e2
    exact s.sep i k q o3 o4 p3 p4 e5 e6 e3 e4
  · have hj := ne (by simp) e'
    rw [List.getElem?_set_ne hj] at e'
    obtain ⟨q, vs, k1, k2, k3, k4⟩ := s.bor i xs e'
    have hne : q ≠ p := fun z => by
      subst z
      rw [h5] at k3
      cases k3
    exact ⟨q, vs, k1, g.h _ _ (by rw [dl_ne hne]; exact k2), k3, k4.up g.g⟩
  · have hj := ne (by simp) e'
    rw [List.getElem?_set_ne hj] at e'
    obtain ⟨v, k1, k2⟩ := s.exc i xa xd xf e'
    exact ⟨v, k1, k2.up g.g⟩
section
variable {P : Program} {w : World} {K : PySem.W.Frag} {mg : Str → Option Value} {base : Heap} {x qual : Str} {st : Stmt} {fa : Addr} {fd : FuncData} {N ps : List Str} {lv : Nat} {A τ μ : Type} {encA : A → List AKm} {encR : τ → D} {g : μ → OO}
theorem def_okM (F : Fun K x qual st fa fd) (S : FnScope N ps (defScope st)) (hlen : ∀ a, (encA a).length = ps.length) (one : ∀ a, oneO (encA a) = true) (k : A → Co Unit Empty (τ × μ))
    (hb : ∀ a, ∀ (X : Cx) (E : XK) (p : Addr), X.prog = P → X.w = w → X.K = K → X.mg = mg → X.base = base → XOk lv N (defScope st) X → XCm X E →
      BC X E ((encA a).map (bOfm p) ++ List.replicate (N.length - (encA a).length) B.un) (defBody st) (fun s : Unit => List.replicate N.length B.un) (fun s : Empty => nomatch s) (resM encR g p) (k a)) : FnOk P w K mg base (L2.CX P w) (lv + 1) fa fd ps (spM K encA encR g (fun a => (k a).out .stk)) := by
  refine F.okX S (fun vs H Q E h => ?_) (fun cdv Ar outer s H vs Q E hr h => ?_)
  · obtain ⟨a, G, p, _, _, h2, _⟩ := h
    rw [h2.len, hlen]
  · obtain ⟨a, G, p, h1, hp, h2, h4⟩ := h
    have h4 : PostR K (dl H p) G E Q (rsOf (resM encR g p) ((k a).out .stk)) := h4
    generalize hX : cxOf (L2.CX P w) P w K mg base N qual (defScope st) fa cdv Ar outer s H E = X
    have ok : XOk lv N (defScope st) X := by
      subst hX
      exact ⟨⟨hr.dp, hr.un⟩, fun _ => rfl, rfl, rfl, S.nd, S.kind, rfl, rfl⟩
    have cm : XCm X E := by
      subst hX
      exact ⟨rfl, hr.hd, passes_of rfl, takes_of rfl rfl rfl rfl⟩
    have b := hb a X E p (by subst hX; rfl) (by subst hX; rfl) (by subst hX; rfl) (by subst hX; rfl) (by subst hX; rfl) ok cm
    have hK : X.K = K := by subst hX; rfl
    refine ⟨wS X (defBody st), pss_w, ?_⟩
    refine b (dl H p) G _ G H _ ?_ (Grow.startM h1) ?_
    · rw [hK]
      have q := stt_startM h1 hp (N.length - (encA a).length) h2 (one a)
      unfold L2.start
      rw [h2.len]
      exact q
    · rw [hK]
      cases hka : k a with
      | go u =>
        rw [hka] at h4
        exact (show False from h4).elim
      | brk b => exact nomatch b
      | ret r =>
        rw [hka] at h4
        exact h4
end
/-! the calls -/
def PostM (K : PySem.W.Frag) (F G0 G : Hp) (E : XK) (σ : L2.St) (Γ : List B) (j : Nat) (pa : Option Addr) {τ μ : Type} (enc : τ → D) (g : μ → OO) (Q : VK) : Out (τ × μ) → Prop
  | .ok z => ∀ v G' H', Ex G G' → Stt K F (Γ.set j (.own (g z.2) pa)) σ G' H' → Grow G0 F G' H' → Is K G' v (enc z.1) → Q v H'
  | .err x => ∀ cls d G' H', Grow G0 F G' H' → ExIs K G' H' x cls d → E cls d H'
  | .stk => False
def EvM (X : Cx) (E : XK) (Γ : List B) (j : Nat) (pa : Option Addr) (e : Expr) {τ μ : Type} (enc : τ → D) (g : μ → OO) (r : Out (τ × μ)) : Prop :=
  ∀ F G0 σ G H, Stt X.K F Γ σ G H → Grow G0 F G H → ∀ Q : VK, PostM X.K F G0 G E σ Γ j pa enc g Q r → wE X e σ H Q
def EvAm (X : Cx) (j : Nat) (Γ : List B) (es : List Expr) (as : List AKm) : Prop :=
  ∀ F σ G H, Stt X.K F Γ σ G H → ∀ p, σ[j]? = some (some (V.ref p)) → ∀ Q : List V → Hp → Prop, (∀ vs G' H', Grow G H G' H' → IsAm X.K G' H' p vs as → Q vs H') → wA X es σ H Q
section
variable {X : Cx} {E : XK} {Γ : List B} {e : Expr} {es : List Expr} {j : Nat} {pa : Option Addr} {x y z : Str} {np pos py apos cpos : Pos} {as : List AKm} {lv lv' : Nat} {N : List Str} {sc : Scope} {A τ μ : Type} {enc : A → List AKm} {encR : τ → D} {g : μ → OO} {r : A → Out (τ × μ)}
theorem eam_nil : EvAm X j Γ [] [] := fun F σ G H s p hp Q q => ⟨fun pos pins sh I => pa_nil.run pos pins sh σ H Q I (q [] G H (.refl s.sub) .nil)⟩
theorem eam_d {d : D} (he : ED X Γ e d) (hs : EvAm X j Γ es as) (hst : starEach (e :: es) X.env = (false, eval e X.env) :: starEach es X.env := by exact starEach_ns rfl) : EvAm X j Γ (e :: es) (.d d :: as) := fun F σ G H s p hp Q q =>
  ⟨fun pos pins sh I => (pa_cons pe_w pa_w hst).run pos pins sh σ H Q I (he F σ G H s _ fun v G1 H1 g1 i1 => hs F σ G1 H1 (s.grow g1) p hp _ fun vs G2 H2 g2 i2 => q (v :: vs) G2 H2 (g1.trans g2) (.d (i1.up g2.g) i2))⟩
theorem eam_o {o : OO} (hX : XOk lv N sc X) (hn : N[j]? = some y) (hv : Vis sc y) (h : Γ[j]? = some (B.own o pa)) (hs : EvAm X j Γ es as) (hd : (y == ("__debug__" : Str)) = false := by decide) (hcd : (y == ("__classdict__" : Str)) = false := by decide)
    (hst : starEach (.Name y py :: es) X.env = (false, eval (.Name y py) X.env) :: starEach es X.env := by exact starEach_ns rfl) : EvAm X j Γ (.Name y py :: es) (.o o :: as) := fun F σ G H s p hp Q q =>
  ⟨fun pos pins sh I => (pa_cons (pe_var (hX.nm hn) (hX.vs hv) hd hcd) pa_w hst).run pos pins sh σ H Q I (by
    obtain ⟨p', u, h1, h2, h3, _, h4, _⟩ := s.own j o pa h
    rw [hp] at h1
    cases h1
    exact ⟨_, hp, hs F σ G H s p hp _ fun vs G2 H2 g2 i2 => q (.ref p :: vs) G2 H2 g2 (.o (g2.h _ _ h2) (h4.up g2.g) i2)⟩)⟩
theorem em_call (a : A) {o : OO} (tk : PsAt X (fun _ => E)) (hk : KnX X x lv (spM X.K enc encR g r)) (hr : Room lv X.A) (hg : Gl X x) (h : Γ[j]? = some (B.own o pa)) (ha : EvAm X j Γ (e :: es) (enc a))
    (hdb : (x == ("__debug__" : Str)) = false := by decide) (he : starEach (e :: es) X.env = (false, eval e X.env) :: starEach es X.env := by exact starEach_ns rfl) (hpl : (backTo pos (starEach es X.env)).any (·.1) = false := by exact plain_ok rfl) : EvM X E Γ j pa (.Call (.Name x np) (e :: es) [] pos) encR g (r a) := fun F G0 σ G H s gr Q q => by
  obtain ⟨f, fd, ps, k1, k2, k3, k4⟩ := hk.ex
  obtain ⟨p, u, h1, h2, h3, h5, h4, h6⟩ := s.own j o pa h
  refine ⟨fun pins sh I => (pe_callS (E := fun _ => E) k1 hr hg k2 k3 k4 tk pa_w hdb he hpl).run pins sh σ H Q I (ha F σ G H s p h1 _ fun vs G1 H1 g1 i1 => ⟨a, G1, p, g1.s, g1.f _ _ h2 h3, i1, ?_⟩)⟩
  have s1 := s.grow g1
  cases hra : r a with
  | ok z =>
    rw [hra] at q
    exact fun v u' G2 H2 g2 i2 hp2 n2 o2 => q v G2 H2 (g1.g.trans g2.g) (s1.growM h h1 g2 hp2 n2 o2) ((gr.trans g1).transM h5 g2) i2
  | err y =>
    rw [hra] at q
    exact fun cls d G2 H2 g2 hi => q cls d G2 H2 ((gr.trans g1).transM h5 g2) hi
  | stk =>
    rw [hra] at q
    exact q.elim
end
section
variable {X : Cx} {E : XK} {Γ : List B} {S T R : Type} {Γs : S → List B} {Γb : T → List B} {f : R → Res} {rest : List Stmt} {pos py apos cpos : Pos} {lv : Nat} {N : List Str} {sc : Scope} {y : Str} {e : Expr} {j : Nat} {pa : Option Addr} {τ μ : Type} {encR : τ → D} {g : μ → OO} {r : Out (τ × μ)}
/-- y = e -/
theorem c_setM (i : Nat) {k : τ × μ → Co S T R} (hX : XOk lv N sc X) (hn : N[i]? = some y) (hl : Loc sc y) (he : EvM X E Γ j pa e encR g r) (hr : ∀ z, BC X E ((Γ.set j (.own (g z.2) pa)).set i (.d (encR z.1))) rest Γs Γb f (k z)) (hs : swapsWith e (some (.Name y py)) pos.line X.env = pure false := by exact sw_ns rfl) :
    BC X E Γ (.Assign [.Name y py] e pos :: rest) Γs Γb f (bndO r k) := fun F G0 σ G H D s gr post => by
  refine w_cons (ps_set hX.nd (hX.nm hn) (hX.lc hl) pe_w hs (.inl (hX.fn y))) (he F G0 σ G H s gr _ ?_)
  cases r with
  | ok z => exact fun v G1 H1 ex s1 g1 i1 => hr z F G0 _ G1 H1 D (s1.set i i1) g1 (PostC.up post ex)
  | err x => exact fun cls d G1 H1 g1 hi => (show PostR X.K F G0 E D.rt (.x x) from post) cls d G1 H1 g1 hi
  | stk => exact (show False from post).elim
/-- e -/
theorem c_exprM {k : τ × μ → Co S T R} (he : EvM X E Γ j pa e encR g r) (hr : ∀ z, BC X E (Γ.set j (.own (g z.2) pa)) rest Γs Γb f (k z)) (hs : swapsWith e none pos.line X.env = pure false := by exact sw_ns rfl) :
    BC X E Γ (.Expr e pos :: rest) Γs Γb f (bndO r k) := fun F G0 σ G H D s gr post => by
  refine w_cons (ps_expr pe_w hs) (he F G0 σ G H s gr _ ?_)
  cases r with
  | ok z => exact fun v G1 H1 ex s1 g1 i1 => hr z F G0 _ G1 H1 D s1 g1 (PostC.up post ex)
  | err x => exact fun cls d G1 H1 g1 hi => (show PostR X.K F G0 E D.rt (.x x) from post) cls d G1 H1 g1 hi
  | stk => exact (show False from post).elim
/-- y.append(e), y another list of one's own -/
theorem c_appM (i : Nat) {xs : List τ} {k : τ × μ → List τ → Co S T R} {pb : Option Addr} (hX : XOk lv N sc X) (hn : N[i]? = some y) (hl : Vis sc y) (hij : j ≠ i) (h : Γ[i]? = some (B.own (.lst (xs.map encR)) pb)) (he : EvM X E Γ j pa e encR g r) (hz : xs.length < sizeLine)
    (hr : ∀ z : τ × μ, ∀ zs, zs = xs ++ [z.1] → BC X E ((Γ.set j (.own (g z.2) pa)).set i (.own (.lst (zs.map encR)) pb)) rest Γs Γb f (k z zs))
    (hfew : ((backTo cpos (starEach (e :: []) X.env)).all (fun x => !x.1) && (backToKw cpos (keywordEach [] X.env)).all (fun x => x.1.isSome) && decide ((e :: ([] : List Expr)).length + ([] : List Keyword).length + (if ([] : List Keyword).isEmpty then 0 else 1) < 30)) = true := by exact few_ok rfl)
    (hst : starEach (e :: []) X.env = (false, eval e X.env) :: starEach [] X.env := by exact starEach_ns rfl) (hplain : (backTo cpos (starEach [] X.env)).any (·.1) = false := by exact plain_ok rfl) (hs : swapsWith (.Call (.Attribute (.Name y py) "append" apos) [e] [] cpos) none pos.line X.env = pure false := by exact sw_ns rfl)
    (hline : (apos.endLine == cpos.line) = true := by rfl) (hd : (y == ("__debug__" : Str)) = false := by decide) (hcd : (y == ("__classdict__" : Str)) = false := by decide) :
    BC X E Γ (.Expr (.Call (.Attribute (.Name y py) "append" apos) [e] [] cpos) pos :: rest) Γs Γb f (bndO r fun z => bnd (xs ++ [z.1]) fun zs => k z zs) := fun F G0 σ G H D s gr post => by
  obtain ⟨p, u, h1, h2, h3, h4, h5, _⟩ := s.own i _ _ h
  obtain ⟨vs, rfl, iv⟩ := h5.lst
  refine w_cons (ps_expr (pe_bm PySem.F.plainAttrs_list PySem.F.slot_list_append PySem.F.type_list_append mt_append (pe_var (hX.nm hn) (hX.vs hl) hd hcd) (pa_cons pe_w pa_nil hst) (ab_ns rfl) hfew hline hst hplain) hs) ?_
  refine ⟨_, h1, .inl ⟨rfl, vs, .inl (.inl h2)⟩, he F G0 σ G H s gr _ ?_⟩
  cases r with
  | ok z =>
    intro v G1 H1 ex s1 g1 i1
    have e1 : (Γ.set j (.own (g z.2) pa))[i]? = some (B.own (.lst (xs.map encR)) pb) := by
      rw [List.getElem?_set_ne hij]
      exact h
    obtain ⟨p', u', k1, k2, k3, k4, k5, _⟩ := s1.own i _ _ e1
    rw [h1] at k1
    cases k1
    obtain ⟨ws, rfl, iw⟩ := k5.lst
    refine ⟨p, ws, v, rfl, rfl, k2, by rw [iw.len, List.length_map]; exact hz, ?_⟩
    have s2 := s1.mut (u := .lst (ws ++ [v])) (o' := .lst ((xs ++ [z.1]).map encR)) e1 h1 (by
      show IsAll _ _ _ _
      rw [List.map_append]
      exact iw.app (.cons i1 .nil))
    refine hr z (xs ++ [z.1]) rfl F G0 σ G1 _ D s2 ⟨g1.g, fun b o eo => ?_, s2.sub, g1.f⟩ (PostC.up post ex)
    rw [upd_ne (ne_of_none eo h4)]
    exact g1.h b o eo
  | err x => exact fun cls d G1 H1 g1 hi => (show PostR X.K F G0 E D.rt (.x x) from post) cls d G1 H1 g1 hi
  | stk => exact (show False from post).elim
/-- return e, where a thing of the caller's own is in slot j -/
theorem c_retM {p : Addr} {x : τ} {m : μ} (he : ED X Γ e (encR x)) (h : Γ[j]? = some (B.own (g m) (some p))) : BC X E Γ (.Return (some e) pos :: rest) Γs Γb (resM encR g p) (.ret (.ok (x, m))) := fun F G0 σ G H D s gr post => by
  refine w_cons (ps_ret pe_w) (he F σ G H s _ fun v G1 H1 g1 i1 => ?_)
  obtain ⟨q, u, h1, h2, h3, h5, h4, h6⟩ := (s.grow g1).own j _ _ h
  have e := h6 p rfl
  subst e
  exact (show PostR X.K F G0 E D.rt (.m (encR x) p (g m)) from post) v u G1 H1 (gr.trans g1) i1 h2 h3 h4
end
end Sd

namespace Sd
open PySem PySem.Spec PyProof.Rows L2
/-! ### a comprehension within one -/
section
variable {lv : Nat} {N : List Str} {sc : Scope} {X : Cx} {s1 : Scope} {s s' : Shared} {H H' : Hp} {C C' : Addr} {cl cl' : List (Str × Addr)} {fp fp' : List Addr} {s2 : Scope} {x : Str}
theorem blk_lk2 (hX : XOk lv N sc X) {k : NameKind} (h : (relS s2 (relS s1 sc)).names.lookup x = some k) : (blkX (blkX X s1 s H C cl fp) s2 s' H' C' cl' fp').env.scope.names.lookup x = some k := by
  show (relS s2 (relS s1 X.env.scope)).names.lookup x = some k
  rw [hX.hsc]
  exact h
theorem blk_vs2 (hX : XOk lv N sc X) (h : Vis (relS s2 (relS s1 sc)) x) : Vis (blkX (blkX X s1 s H C cl fp) s2 s' H' C' cl' fp').env.scope x := by
  show Vis (relS s2 (relS s1 X.env.scope)) x
  rw [hX.hsc]
  exact h
theorem blk_lc2 (hX : XOk lv N sc X) (h : Loc (relS s2 (relS s1 sc)) x) : Loc (blkX (blkX X s1 s H C cl fp) s2 s' H' C' cl' fp').env.scope x := by
  show Loc (relS s2 (relS s1 X.env.scope)) x
  rw [hX.hsc]
  exact h
theorem blk_gl2 (hX : XOk lv N sc X) (h : (relS s2 (relS s1 sc)).names.lookup x = some .globalImplicit) : Gl (blkX (blkX X s1 s H C cl fp) s2 s' H' C' cl' fp') x := blk_lk2 hX h
theorem blk_ok2 (hX : XOk lv N sc X) {own : List (Str × Nat)} (h : blkC N (relS s1 sc) s2 own = true) : BlkOk (blkX X s1 s H C cl fp).N (blkX X s1 s H C cl fp).env.scope s2 own := by
  show BlkOk X.N (relS s1 X.env.scope) s2 own
  rw [hX.hN, hX.hsc]
  exact blkOk_by h
end
/-! ### y = [z, e1, e2][n]: one of three lists of one's own -/
theorem set_same {α : Type} {l : List α} {j : Nat} {x : α} (h : l[j]? = some x) : l.set j x = l := by
  apply List.ext_getElem?
  intro k
  by_cases hk : j = k
  · subst hk
    rw [List.getElem?_set_self (List.getElem?_eq_some_iff.mp h).1, h]
  · rw [List.getElem?_set_ne hk]
section
variable {X : Cx} {E : XK} {Γ : List B} {S T R : Type} {Γs : S → List B} {Γb : T → List B} {f : R → Res} {rest : List Stmt} {pos py pz p2 p3 : Pos} {lv : Nat} {N : List Str} {sc : Scope} {y z : Str} {e1 e2 ie : Expr} {τ : Type}
theorem c_pick3 (i jo : Nat) (enc : τ → D) {xs0 xs1 xs2 : List τ} {n : Int} {k : List τ → Co S T R} (hX : XOk lv N sc X) (hn : N[i]? = some y) (hl : Loc sc y) (hz : N[jo]? = some z) (hv : Vis sc z) (h0 : Γ[jo]? = some (B.own (.lst (xs0.map enc)))) (h1 : EO X Γ e1 (.lst (xs1.map enc))) (h2 : EO X Γ e2 (.lst (xs2.map enc)))
    (hi : ED X Γ ie (.int n)) (hr3 : 0 ≤ n ∧ n < 3) (hr : ∀ v, v = ix [xs0, xs1, xs2] n [] → BC X E ((Γ.set jo .un).set i (.own (.lst (v.map enc)))) rest Γs Γb f (k v))
    (hs : swapsWith (.Subscript (.List [.Name z pz, e1, e2] p2) ie p3) (some (.Name y py)) pos.line X.env = pure false := by exact sw_ns rfl) (hix : PlainIx ie := by exact ix_ns rfl)
    (ha : starEach [.Name z pz, e1, e2] X.env = (false, eval (.Name z pz) X.env) :: starEach [e1, e2] X.env := by exact starEach_ns rfl) (hb : starEach [e1, e2] X.env = (false, eval e1 X.env) :: starEach [e2] X.env := by exact starEach_ns rfl) (hc : starEach [e2] X.env = (false, eval e2 X.env) :: starEach [] X.env := by exact starEach_ns rfl)
    (hd : (z == ("__debug__" : Str)) = false := by decide) (hcd : (z == ("__classdict__" : Str)) = false := by decide) :
    BC X E Γ (.Assign [.Name y py] (.Subscript (.List [.Name z pz, e1, e2] p2) ie p3) pos :: rest) Γs Γb f (bnd (ix [xs0, xs1, xs2] n []) k) := fun F G0 σ G H D s gr post => by
  refine w_cons (ps_set hX.nd (hX.nm hn) (hX.lc hl) (pe_ix ix_list (pe_lst (pa_cons (pe_var (hX.nm hz) (hX.vs hv) hd hcd) (pa_cons pe_w (pa_cons pe_w pa_nil hc) hb) ha)) pe_w hix) hs (.inl (hX.fn y))) ?_
  obtain ⟨p0, u0, a1, a2, a3, a4, a5, _⟩ := s.own jo _ _ h0
  refine ⟨_, a1, h1 F σ G H s _ fun q1 u1 G1 H1 g1 b1 b2 b3 b4 => h2 F σ G1 H1 (s.grow g1) _ fun q2 u2 G2 H2 g2 c1 c2 c3 c4 => ⟨by rw [sizeLine_eq]; show 3 ≤ 16777216; decide, fun q hq => hi F σ G2 _ ((s.grow (g1.trans g2)).grow (Grow.lay g2.s hq)) _ fun w G3 H3 g3 i3 => ?_⟩⟩
  cases i3
  have g23 : Grow G2 H2 G3 H3 := (Grow.lay g2.s hq).trans g3
  have g13 := g2.trans g23
  have g03 := g1.trans g13
  have hq3 : H3 q = some (.lst [.ref p0, .ref q1, .ref q2]) := g3.h _ _ upd_same
  have s3 := s.grow g03
  have fin : ∀ (p : Addr) (u : HO) (xs : List τ), H3 p = some u → G3 p = none → F p = none → OwnIs X.K G3 (.lst (xs.map enc)) u → (∀ (j : Nat) (o' : OO) (pa : Option Addr), Γ[j]? = some (B.own o' pa) → j ≠ jo → σ[j]? ≠ some (some (V.ref p))) → (∀ (j : Nat) (x : List (List Nat × List Sd.D)) (p' : Addr) (qs : List Addr), Γ[j]? = some (.tre x) → TreAt X.K F σ G3 H3 j x p' qs → p ∉ p' :: qs) → xs = ix [xs0, xs1, xs2] n [] →
      wS X rest D (σ.set i (some (.ref p))) H3 := fun p u xs k1 k2 k3 k4 k5 k7 k6 => by
    have su := s3.unset jo (some (.ref p0))
    rw [set_same a1] at su
    have st := su.setO i k1 k2 k3 k4 (fun j o' pa hj e => by
      have hne : jo ≠ j := fun w => by
        subst w
        rw [List.getElem?_set_self (List.getElem?_eq_some_iff.mp h0).1] at e
        cases e
      rw [List.getElem?_set_ne hne] at e
      exact k5 j o' pa e (Ne.symm hne)) fun j x p' qs hj e a => by
      rcases set_get e with ⟨_, h⟩ | ⟨_, e⟩
      · cases h
      · exact k7 j x p' qs e a
    subst k6
    exact hr _ rfl F G0 _ G3 H3 D st (gr.trans g03) (PostC.up post g03.g)
  have d0 := fin p0 u0 xs0 (g03.h _ _ a2) (g03.f _ _ a2 a3) a4 (a5.up g03.g) (fun j o' pa e hj w => hj (s.sep j jo p0 o' _ pa _ e h0 w a1)) fun j x p' qs e a => s3.tre.sep j x p' qs e a jo _ _ p0 h0 a1
  have d1 := fin q1 u1 xs1 (g13.h _ _ b1) (g13.f _ _ b1 b2) (Evl.fresh_back gr.h b3) (b4.up g13.g) (fun j o' pa e _ => s.fresh b3 e) fun j x p' qs e a => s.tre.fresh g03 b3 e a
  have d2 := fin q2 u2 xs2 (g23.h _ _ c1) (g23.f _ _ c1 c2) (Evl.fresh_back gr.h (Evl.fresh_back g1.h c3)) (c4.up g23.g) (fun j o' pa e _ => s.fresh (Evl.fresh_back g1.h c3) e) fun j x p' qs e a => s.tre.fresh g03 (Evl.fresh_back g1.h c3) e a
  have hk : n = 0 ∨ n = 1 ∨ n = 2 := by omega
  rcases hk with rfl | rfl | rfl
  · exact ⟨q, _, _, _, rfl, rfl, .inl (.inl hq3), rfl, d0 rfl⟩
  · exact ⟨q, _, _, _, rfl, rfl, .inl (.inl hq3), rfl, d1 rfl⟩
  · exact ⟨q, _, _, _, rfl, rfl, .inl (.inl hq3), rfl, d2 rfl⟩
end
end Sd

namespace Sd
open PySem PySem.Spec PyProof.Rows L2
/-! ### a copy of a list of one's own: the same things stand in both -/
theorem OwnIs.lsv {K : PySem.W.Frag} {G : Hp} {vs : List V} {ds : List D} {u : HO} (h : OwnIs K G (.lsv vs ds) u) : u = .lst vs ∧ IsAll K G vs ds := by
  cases u with
  | lst ws =>
    have h : ws = vs ∧ IsAll K G ws ds := h
    obtain ⟨e, h'⟩ := h
    subst e
    exact ⟨rfl, h'⟩
  | _ => exact h.elim
theorem Stt.retag {K : PySem.W.Frag} {F : Hp} {Γ : List B} {σ : L2.St} {G H : Hp} {p : Addr} {u : HO} {o o' : OO} {pa : Option Addr} (s : Stt K F Γ σ G H) {i : Nat} (e : Γ[i]? = some (B.own o pa)) (h1 : σ[i]? = some (some (V.ref p))) (h2 : H p = some u) (h : OwnIs K G o' u) : Stt K F (Γ.set i (.own o' pa)) σ G H := by
  have q := s.mut (u := u) (o' := o') e h1 h
  have eq : upd H p u = H := by
    funext b
    by_cases hb : b = p
    · rw [hb, upd_same, h2]
    · rw [upd_ne hb]
  rw [eq] at q
  exact q
theorem refs_same : ∀ {vs : List V} {us ws : List Value}, (∀ v ∈ vs, ∃ p, v = V.ref p) → Vals vs us → Vals vs ws → us = ws
  | [], _, _, _, r1, r2 => by
    cases r1
    cases r2
    rfl
  | v :: vs, _, _, hr, r1, r2 => by
    cases r1 with
    | cons k1 t1 =>
      cases r2 with
      | cons k2 t2 =>
        obtain ⟨p, rfl⟩ := hr v List.mem_cons_self
        cases (show _ = Value.ref p from k1)
        cases (show _ = Value.ref p from k2)
        rw [refs_same (fun w hw => hr w (List.mem_cons_of_mem _ hw)) t1 t2]
/-- a list and a list of the same objects -/
theorem op_ne_same {X : Cx} (hu : X.A.units + 64 < cLine) : OpR X (compareOp .NotEq) (fun x y H Q => ∃ (a b : Addr) (vs : List V), x = .ref a ∧ y = .ref b ∧ H a = some (.lst vs) ∧ H b = some (.lst vs) ∧ (∀ v ∈ vs, ∃ p, v = V.ref p) ∧ Q (.bl false) H) := by
  intro pins s σ H x y v u Q I rx ry h
  obtain ⟨a, b, vs, rfl, rfl, ha, hb, hr, q⟩ := h
  cases (show v = Value.ref a from rx)
  cases (show u = Value.ref b from ry)
  obtain ⟨us, r1, p1, _⟩ := I.list (.of ha)
  obtain ⟨ws, r2, p2, _⟩ := I.list (.of hb)
  have e : us = ws := refs_same hr r1 r2
  subst e
  refine SeqAt.RcNeAt.lists (e := fun _ => true) p1.isList p2.isList rfl (by omega) (fun j h1 h2 => SeqAt.EqAt.same _) X.prog X.w X.xe _ ?_
  rw [show ((List.range us.toArray.size).all fun _ => true) = true from List.all_eq_true.mpr fun _ _ => rfl]
  exact ⟨.bl false, H, I, rfl, q⟩
section
variable {X : Cx} {E : XK} {Γ : List B} {S T R : Type} {Γs : S → List B} {Γb : T → List B} {f : R → Res} {rest sts : List Stmt} {pos py pz lp cpos : Pos} {lv : Nat} {N : List Str} {sc : Scope} {x y z : Str} {τ : Type} {ds : List D} {pa pb : Option Addr} {vs : List V}
theorem el_ownV (i : Nat) (hN : X.N[i]? = some x) (hv : Vis X.env.scope x) (h : Γ[i]? = some (B.own (.lsv vs ds) pa)) (hd : (x == ("__debug__" : Str)) = false := by decide) (hcd : (x == ("__classdict__" : Str)) = false := by decide) : EL X Γ (.Name x pos) ds :=
  el_of (pe_var hN hv hd hcd) fun F σ G H s Q q => by
    obtain ⟨p, u, h1, h2, h3, _, h4, _⟩ := s.own i _ _ h
    obtain ⟨rfl, ha⟩ := h4.lsv
    exact ⟨_, h1, q p vs G H (.refl s.sub) h2 ha⟩
theorem c_closeV (i : Nat) {k : Co S T R} (h : Γ[i]? = some (B.own (.lsv vs ds) pa)) (hr : BC X E (Γ.set i (.own (.lst ds) pa)) sts Γs Γb f k) : BC X E Γ sts Γs Γb f k := fun F G0 σ G H D s gr post =>
  hr F G0 σ G H D (by
    obtain ⟨p, u, h1, h2, h3, _, h4, _⟩ := s.own i _ _ h
    obtain ⟨rfl, ha⟩ := h4.lsv
    exact s.retag h h1 h2 (o' := .lst ds) ha) gr post
/-- y = list(z) -/
theorem c_copyV (i j : Nat) (enc : τ → D) {xs : List τ} {k : List τ → Co S T R} (hX : XOk lv N sc X) (hn : N[i]? = some y) (hl : Loc sc y) (hz : N[j]? = some z) (hv : Vis sc z) (hg : Gl X "list") (hm : X.mg "list" = none) (h : Γ[j]? = some (B.own (.lst (xs.map enc)) pa))
    (hr : ∀ vs, ∀ v, v = xs → BC X E ((Γ.set j (.own (.lsv vs (xs.map enc)) pa)).set i (.own (.lsv vs (v.map enc)))) rest Γs Γb f (k v))
    (hs : swapsWith (.Call (.Name "list" lp) [.Name z pz] [] cpos) (some (.Name y py)) pos.line X.env = pure false := by exact sw_ns rfl) (he : starEach [.Name z pz] X.env = (false, eval (.Name z pz) X.env) :: starEach [] X.env := by exact starEach_ns rfl) (hpl : (backTo cpos (starEach [] X.env)).any (·.1) = false := by exact plain_ok rfl)
    (hd : (z == ("__debug__" : Str)) = false := by decide) (hcd : (z == ("__classdict__" : Str)) = false := by decide) :
    BC X E Γ (.Assign [.Name y py] (.Call (.Name "list" lp) [.Name z pz] [] cpos) pos :: rest) Γs Γb f (bnd xs k) := fun F G0 σ G H D s gr post => by
  refine w_cons (ps_set hX.nd (hX.nm hn) (hX.lc hl) (pe_callTy call_list_of hg hm (by decide +kernel) (pa_cons (pe_var (hX.nm hz) (hX.vs hv) hd hcd) pa_nil he) (by decide) (by decide) he hpl) hs (.inl (hX.fn y))) ?_
  obtain ⟨p, u, a1, a2, a3, a4, a5, _⟩ := s.own j _ _ h
  obtain ⟨ws, rfl, iw⟩ := a5.lst
  refine ⟨_, a1, p, ws, rfl, .inl (.inl (.inl a2)), fun l hl' => ?_⟩
  have g1 : Grow G H G (upd H l (.lst ws)) := Grow.lay s.sub hl'
  have s1 := (s.retag (o' := .lsv ws (xs.map enc)) h a1 a2 ⟨rfl, iw⟩).grow g1
  have e1 : (Γ.set j (B.own (.lsv ws (xs.map enc)) pa))[j]? = some (B.own (.lsv ws (xs.map enc)) pa) := List.getElem?_set_self (List.getElem?_eq_some_iff.mp h).1
  have s0 := s.retag (o' := .lsv ws (xs.map enc)) h a1 a2 ⟨rfl, iw⟩
  have s2 := s1.setO (o := .lsv ws (xs.map enc)) i upd_same (Evl.fresh_back s.sub hl') (Evl.fresh_back gr.h hl') ⟨rfl, iw⟩ (fun j' o' pa' _ e => s0.fresh hl' e) fun j' x p' qs _ e a => s0.tre.fresh g1 hl' e a
  exact hr ws xs rfl F G0 _ G _ D s2 (gr.trans g1) post
theorem ins_refs {K : PySem.W.Frag} {G : Hp} : ∀ {vs : List V} {ds : List D}, IsAll K G vs ds → (∀ d ∈ ds, ∃ n fs, d = D.ins n fs) → ∀ v ∈ vs, ∃ p, v = V.ref p
  | _, [], h, _, v, hv => by
    cases h
    exact absurd hv List.not_mem_nil
  | _, d :: ds, h, hr, v, hv => by
    cases h with
    | cons k1 k2 =>
      rcases List.mem_cons.mp hv with e | hv
      · subst e
        obtain ⟨n, fs, e⟩ := hr _ List.mem_cons_self
        rw [e] at k1
        cases k1
        exact ⟨_, rfl⟩
      · exact ins_refs k2 (fun d hd => hr d (List.mem_cons_of_mem _ hd)) v hv
/-- z != y, of a list and its copy -/
theorem et_neV (i j : Nat) {ds' : List D} (hX : XOk lv N sc X) (hn : N[i]? = some y) (hl : Vis sc y) (hz : N[j]? = some z) (hv : Vis sc z) (h1 : Γ[i]? = some (B.own (.lsv vs ds) pa)) (h2 : Γ[j]? = some (B.own (.lsv vs ds') pb)) (hr : ∀ d ∈ ds, ∃ n fs, d = D.ins n fs)
    (hd : (z == ("__debug__" : Str)) = false := by decide) (hcd : (z == ("__classdict__" : Str)) = false := by decide) (hd' : (y == ("__debug__" : Str)) = false := by decide) (hcd' : (y == ("__classdict__" : Str)) = false := by decide) :
    ET X Γ (.Compare (.Name z pz) [.NotEq] [.Name y py] pos) false := by
  refine et_of (pt_cmpR (op_ne_same (room64 hX.room)) (pe_var (hX.nm hz) (hX.vs hv) hd hcd) (pe_var (hX.nm hn) (hX.vs hl) hd' hcd') (nomark _)) (ev_test fun F σ G H s Q q => ?_)
  obtain ⟨p, u, a1, a2, _, _, a5, _⟩ := s.own i _ _ h1
  obtain ⟨p', u', b1, b2, _, _, b5, _⟩ := s.own j _ _ h2
  obtain ⟨rfl, ia⟩ := a5.lsv
  obtain ⟨rfl, ib⟩ := b5.lsv
  refine ⟨_, b1, _, a1, p', p, vs, rfl, rfl, b2, a2, fun v hv => ?_, q _ G H (.refl s.sub) (.bl false)⟩
  exact ins_refs ia hr v hv
end
end Sd

namespace Sd
open PySem PySem.Spec PyProof.Rows L2
/-! ### a dict of lists, all of them one's own -/
section
variable {K : PySem.W.Frag} {F F' G H G' H' : Hp} {Γ : List B} {σ : L2.St}
theorem Twigs.no : ∀ {qs : List Addr} {kvs : List (List Nat × List D)}, Twigs K F G H qs kvs → ∀ q ∈ qs, G q = none ∧ F q = none
  | _, _, .nil, _, h => nomatch h
  | _, _, .cons _ h1 h2 _ _ t, q, h => by
    rcases List.mem_cons.mp h with e | e
    · rw [e]
      exact ⟨h1, h2⟩
    · exact t.no q e
theorem TreAt.no {i : Nat} {x : List (List Nat × List D)} {p : Addr} {qs : List Addr} (a : TreAt K F σ G H i x p qs) : ∀ q ∈ p :: qs, G q = none ∧ F q = none := fun q h => by
  rcases List.mem_cons.mp h with e | e
  · rw [e]
    exact ⟨a.gp, a.fp⟩
  · exact a.tw.no q e
/-- a tree changes, or comes -/
theorem Stt.tput {i : Nat} {x : List (List Nat × List D)} {p : Addr} {qs : List Addr} (s : Stt K F (Γ.set i .un) σ G H) (hi : i < Γ.length) (hno : ∀ j y, j ≠ i → Γ[j]? ≠ some (.tre y)) (f : Addr → Prop) (fG : ∀ q, f q → G q = none) (fF : ∀ q, f q → F q = none)
    (fO : ∀ j o pa q, Γ[j]? = some (.own o pa) → j ≠ i → σ[j]? = some (some (.ref q)) → ¬ f q ∧ q ∉ p :: qs) (hH : ∀ b, ¬ f b → ∀ u, H b = some u → H' b = some u) (a : TreAt K F σ G H' i x p qs) : Stt K F (Γ.set i (.tre x)) σ G H' := by
  have back : ∀ {j : Nat} {b : B}, (Γ.set i (.tre x))[j]? = some b → (∀ y, b ≠ .tre y) → i ≠ j ∧ (Γ.set i .un)[j]? = some b ∧ Γ[j]? = some b := fun {j b} e nb => by
    rcases set_get e with ⟨_, h⟩ | ⟨h, e⟩
    · exact absurd h (nb _)
    · exact ⟨h, by rw [List.getElem?_set_ne h]; exact e, e⟩
  have tr : ∀ {j : Nat} {y : List (List Nat × List D)}, (Γ.set i (.tre x))[j]? = some (.tre y) → i = j ∧ y = x := fun {j y} e => by
    rcases set_get e with ⟨h1, h⟩ | ⟨h, e⟩
    · cases h
      exact ⟨h1, rfl⟩
    · exact absurd e (hno j y (Ne.symm h))
  refine ⟨by have := s.len; rw [List.length_set] at this ⊢; exact this, fun b u e => hH b (fun h => ?_) u (s.sub b u e), fun j y e => ?_, fun j o pa e => ?_, fun j k q o o' pa pb e1 e2 e3 e4 => ?_, fun j xs e => ?_, fun j xa xd xf e => ?_, ⟨fun j y e => ?_, fun j y p' qs' e b k o pa q e1 e2 => ?_, fun j k y z e1 e2 => (tr e1).1.symm.trans (tr e2).1⟩⟩
  · rw [fG b h] at e
    cases e
  · exact s.dat j y (back e (fun _ z => by cases z)).2.1
  · obtain ⟨h1, h2, h3⟩ := back e (fun _ z => by cases z)
    obtain ⟨q, u, k1, k2, k3, k4, k5, k6⟩ := s.own j o pa h2
    exact ⟨q, u, k1, hH q (fO j o pa q h3 (Ne.symm h1) k1).1 u k2, k3, k4, k5, k6⟩
  · exact s.sep j k q o o' pa pb (back e1 (fun _ z => by cases z)).2.1 (back e2 (fun _ z => by cases z)).2.1 e3 e4
  · obtain ⟨q, vs, k1, k2, k3, k4⟩ := s.bor j xs (back e (fun _ z => by cases z)).2.1
    exact ⟨q, vs, k1, hH q (fun h => by rw [fF q h] at k3; cases k3) _ k2, k3, k4⟩
  · exact s.exc j xa xd xf (back e (fun _ z => by cases z)).2.1
  · obtain ⟨rfl, rfl⟩ := tr e
    exact ⟨p, qs, a⟩
  · obtain ⟨rfl, rfl⟩ := tr e
    obtain ⟨rfl, rfl⟩ := a.uniq b
    obtain ⟨h1, _, h3⟩ := back e1 (fun _ z => by cases z)
    exact (fO k o pa q h3 (Ne.symm h1) e2).2
theorem Stt.hide (s : Stt K F Γ σ G H) (i : Nat) {y : Option V} (e : σ[i]? = some y) : Stt K F (Γ.set i .un) σ G H := by
  have h := s.unset i y
  rw [set_same e] at h
  exact h
end
/-- what a tree holds -/
def encTw {τ : Type} (enc : τ → D) (kvs : List (List Nat × List τ)) : List (List Nat × List D) := kvs.map fun z => (z.1, z.2.map enc)
/-- x is put behind the list at k -/
def tApp {τ : Type} : List (List Nat × List τ) → List Nat → τ → List (List Nat × List τ)
  | [], _, _ => []
  | z :: t, k, x => if z.1 = k then (z.1, z.2 ++ [x]) :: t else z :: tApp t k x
theorem encTw_app {τ : Type} {enc : τ → D} {k : List Nat} {x : τ} : ∀ {kvs : List (List Nat × List τ)}, encTw enc (tApp kvs k x) = tApp (encTw enc kvs) k (enc x)
  | [] => rfl
  | z :: t => by
    show encTw enc (if z.1 = k then (z.1, z.2 ++ [x]) :: t else z :: tApp t k x) = if z.1 = k then (z.1, z.2.map enc ++ [enc x]) :: encTw enc t else (z.1, z.2.map enc) :: tApp (encTw enc t) k (enc x)
    by_cases h : z.1 = k
    · rw [if_pos h, if_pos h]
      unfold encTw
      rw [List.map_cons, List.map_append]
      rfl
    · rw [if_neg h, if_neg h, ← encTw_app (kvs := t)]
      rfl
section
variable {K : PySem.W.Frag} {F G H : Hp}
theorem twK_mem : ∀ {qs : List Addr} {x : List (List Nat × List D)}, Twigs K F G H qs x → ∀ k : List Nat, (valV (twK qs x) (.inr (S k) : Key)).isSome = decide (k ∈ x.map (·.1))
  | _, _, .nil, k => rfl
  | _, _, @Twigs.cons _ _ _ _ q _ k0 xs qs x _ _ _ _ _ t, k => by
    have ih := twK_mem t k
    by_cases e : k0 = k
    · show (valV ((.inr (S k0), .ref q) :: twK qs x) _).isSome = _
      rw [valV_pos (by show (Sum.inr (S k0) : Key) = _; rw [e])]
      exact (decide_eq_true (by rw [List.map_cons, e]; exact List.mem_cons_self)).symm
    · show (valV ((.inr (S k0), .ref q) :: twK qs x) _).isSome = _
      rw [valV_neg (by show ¬ (Sum.inr (S k0) : Key) = _; intro w; exact e (S_inj.mp (Sum.inr.inj w))), ih, List.map_cons]
      exact decide_eq_decide.mpr ⟨fun h => List.mem_cons_of_mem _ h, fun h => (List.mem_cons.mp h).resolve_left fun w => e w.symm⟩
theorem twK_snoc : ∀ {qs : List Addr} {x : List (List Nat × List D)} {q : Addr} {z : List Nat × List D}, Twigs K F G H qs x → twK (qs ++ [q]) (x ++ [z]) = twK qs x ++ [(.inr (S z.1), .ref q)]
  | _, _, q, z, .nil => rfl
  | _, _, q, z, .cons _ _ _ _ _ t => by
    exact congrArg (_ :: ·) (twK_snoc t)
theorem twK_len : ∀ {qs : List Addr} {x : List (List Nat × List D)}, Twigs K F G H qs x → (twK qs x).length = x.length
  | _, _, .nil => rfl
  | _, _, .cons _ _ _ _ _ t => congrArg (· + 1) (twK_len t)
theorem Twigs.snoc {q : Addr} {k : List Nat} {xs : List D} {vs : List V} (h1 : H q = some (.lst vs)) (h2 : G q = none) (h3 : F q = none) (h4 : StrOk k) (h5 : IsAll K G vs xs) : ∀ {qs : List Addr} {x : List (List Nat × List D)}, Twigs K F G H qs x → Twigs K F G H (qs ++ [q]) (x ++ [(k, xs)])
  | _, _, .nil => .cons h1 h2 h3 h4 h5 .nil
  | _, _, .cons a b c d e t => .cons a b c d e (t.snoc h1 h2 h3 h4 h5)
/-- the list at k -/
theorem Twigs.get : ∀ {qs : List Addr} {x : List (List Nat × List D)} {k : List Nat}, Twigs K F G H qs x → k ∈ x.map (·.1) → ∃ q vs xs, valV (twK qs x) (.inr (S k) : Key) = some (.ref q) ∧ q ∈ qs ∧ H q = some (.lst vs) ∧ vs.length = xs.length ∧ getS x k = some xs ∧
    (qs.Nodup → ∀ v d, Is K G v d → Twigs K F G (upd H q (.lst (vs ++ [v]))) qs (tApp x k d) ∧ twK qs (tApp x k d) = twK qs x)
  | _, _, k, .nil, h => absurd h List.not_mem_nil
  | _, _, k, @Twigs.cons _ _ _ _ q vs k0 xs qs x h1 h2 h3 h4 h5 t, h => by
    by_cases e : k0 = k
    · subst e
      refine ⟨q, vs, xs, valV_pos rfl, List.mem_cons_self, h1, h5.len, ?_, fun nd v d i => ?_⟩
      · unfold getS
        rw [List.find?_cons_of_pos (p := fun z : List Nat × List D => decide (z.1 = k0)) (decide_eq_true rfl)]
        rfl
      · have ha : tApp ((k0, xs) :: x) k0 d = (k0, xs ++ [d]) :: x := if_pos rfl
        rw [ha]
        have nq : q ∉ qs := (List.nodup_cons.mp nd).1
        refine ⟨.cons upd_same h2 h3 h4 (h5.app (.cons i .nil)) (t.map (Evl.Ex.refl _) fun b hb vs' k1 k2 k3 => ⟨by
          rw [upd_ne fun z => nq (by rw [← z]; exact hb)]
          exact k1, k2, k3⟩), rfl⟩
    · have hk : k ∈ x.map (·.1) := by
        rw [List.map_cons] at h
        exact (List.mem_cons.mp h).resolve_left fun w => e w.symm
      obtain ⟨q', vs', xs', a1, a2, a3, a4, a5, a6⟩ := t.get hk
      refine ⟨q', vs', xs', (valV_neg (by show ¬ (Sum.inr (S k0) : Key) = _; intro w; exact e (S_inj.mp (Sum.inr.inj w)))).trans a1, List.mem_cons_of_mem _ a2, a3, a4, ?_, fun nd v d i => ?_⟩
      · unfold getS at a5 ⊢
        rw [List.find?_cons_of_neg (p := fun z : List Nat × List D => decide (z.1 = k)) (by simpa using e)]
        exact a5
      · have ha : tApp ((k0, xs) :: x) k d = (k0, xs) :: tApp x k d := if_neg e
        rw [ha]
        obtain ⟨nq, nd'⟩ := List.nodup_cons.mp nd
        obtain ⟨b1, b2⟩ := a6 nd' v d i
        refine ⟨.cons ?_ h2 h3 h4 h5 b1, ?_⟩
        · rw [upd_ne fun z => nq (by rw [z]; exact a2)]
          exact h1
        · show _ :: twK _ _ = _ :: twK _ _
          rw [b2]
theorem tApp_len {τ : Type} {k : List Nat} {d : τ} : ∀ {x : List (List Nat × List τ)}, (tApp x k d).length = x.length
  | [] => rfl
  | z :: t => by
    show (if z.1 = k then (z.1, z.2 ++ [d]) :: t else z :: tApp t k d).length = _
    by_cases h : z.1 = k
    · rw [if_pos h]
      rfl
    · rw [if_neg h]
      exact congrArg (· + 1) tApp_len
end
/-- no slot but one holds a tree -/
def noTr : List B → Bool
  | [] => true
  | B.tre _ :: _ => false
  | _ :: t => noTr t
theorem noTr_ok : ∀ {Γ : List B}, noTr Γ = true → ∀ (j : Nat) (y : List (List Nat × List D)), Γ[j]? ≠ some (B.tre y)
  | [], _, j, y, e => by simp at e
  | b :: t, h, 0, y, e => by
    simp at e
    subst e
    cases h
  | b :: t, h, j + 1, y, e => noTr_ok (Γ := t) (by cases b <;> first | exact h | cases h) j y (by simpa using e)
section
variable {X : Cx} {E : XK} {Γ : List B} {S T R : Type} {Γs : S → List B} {Γb : T → List B} {f : R → Res} {rest sts : List Stmt} {pos py apos cpos spos : Pos} {lv : Nat} {N : List Str} {sc : Scope} {y : Str} {e ke : Expr} {τ : Type} {enc : τ → D} {ks : List (List Nat × List τ)} {k : List Nat}
/-- y = {} -/
theorem c_tre0 (i : Nat) (enc : τ → D) {c : List (List Nat × List τ) → Co S T R} {dpos : Pos} (hX : XOk lv N sc X) (hn : N[i]? = some y) (hl : Loc sc y) (hlen : i < Γ.length) (hno : noTr Γ = true) (hr : ∀ v, v = [] → BC X E (Γ.set i (.tre (encTw enc v))) rest Γs Γb f (c v)) :
    BC X E Γ (.Assign [.Name y py] (.Dict [] [] dpos) pos :: rest) Γs Γb f (bnd [] c) := fun F G0 σ G H D s gr post => by
  refine w_cons (ps_set hX.nd (hX.nm hn) (hX.lc hl) pe_dnewK (by exact sw_ns rfl) (.inl (hX.fn y))) ?_
  intro p hp
  have g1 : Grow G H G (upd H p (.dK [])) := Grow.lay s.sub hp
  have s1 := (s.grow g1).unset i (some (.ref p))
  have a : TreAt X.K F (σ.set i (some (.ref p))) G (upd H p (.dK [])) i [] p [] := ⟨List.getElem?_set_self (by rw [s.len]; exact hlen), upd_same, Evl.fresh_back s.sub hp, Evl.fresh_back gr.h hp, .nil, List.nodup_cons.mpr ⟨List.not_mem_nil, .nil⟩⟩
  have s2 : Stt X.K F (Γ.set i (.tre [])) (σ.set i (some (.ref p))) G (upd H p (.dK [])) := s1.tput hlen (fun j z _ => noTr_ok hno j z) (fun _ => False) (fun _ h => h.elim) (fun _ h => h.elim) (fun j o pa q e1 hj e2 => ⟨id, fun hq => by
      rw [List.getElem?_set_ne (Ne.symm hj)] at e2
      rcases List.mem_cons.mp hq with z | z
      · rw [z] at e2
        exact s.fresh hp e1 e2
      · cases z⟩) (fun b _ u e => e) a
  exact hr [] rfl F G0 _ G _ D s2 (gr.trans g1) post
/-- y[k] = [], where nothing was at k -/
theorem c_treN (i : Nat) (enc : τ → D) {c : List (List Nat × List τ) → Co S T R} {lpos : Pos} (hX : XOk lv N sc X) (hn : N[i]? = some y) (hl : Vis sc y) (h : Γ[i]? = some (B.tre (encTw enc ks))) (hk : ED X Γ ke (.str k)) (hz : ks.length < sizeLine) (hnew : k ∉ ks.map (·.1))
    (hr : ∀ zs, zs = ks ++ [(k, [])] → BC X E (Γ.set i (.tre (encTw enc zs))) rest Γs Γb f (c zs))
    (hs : swapsWith (.List [] lpos) (some (.Subscript (.Name y py) ke spos)) pos.line X.env = pure false := by exact sw_ns rfl) (hd : (y == ("__debug__" : Str)) = false := by decide) (hcd : (y == ("__classdict__" : Str)) = false := by decide) :
    BC X E Γ (.Assign [.Subscript (.Name y py) ke spos] (.List [] lpos) pos :: rest) Γs Γb f (bnd (ks ++ [(k, [])]) c) := fun F G0 σ G H D s gr post => by
  obtain ⟨p, qs, a⟩ := s.tre.ex i _ h
  have eo : EO X Γ (.List [] lpos) (.lst []) := eo_lst ea_nil (by decide)
  refine w_cons (ps_dput (by have := room64 hX.room; omega) (pe_var (hX.nm hn) (hX.vs hl) hd hcd) pe_w pe_w hs) (eo F σ G H s _ fun q u G1 H1 g1 b1 b2 b3 b4 => ⟨_, a.sl, hk F σ G1 H1 (s.grow g1) _ fun w G2 H2 g2 i2 => ?_⟩)
  obtain ⟨vs, rfl, b5⟩ := b4.lst
  cases b5
  obtain ⟨rfl, ok⟩ := i2.keyS
  have g3 := g1.trans g2
  have s3 := s.grow g3
  have a3 := a.grow g3
  have hm := twK_mem a3.tw k
  have hx : k ∉ (encTw enc ks).map (·.1) := by
    unfold encTw
    rw [List.map_map]
    exact hnew
  rw [decide_eq_false hx] at hm
  have hq : H2 q = some (.lst []) := g2.h _ _ b1
  have gq : G2 q = none := g2.f _ _ b1 b2
  have fq : F q = none := Evl.fresh_back gr.h b3
  have nq : q ∉ p :: qs := a.fresh b3
  have hpq : p ≠ q := fun z => nq (by rw [z]; exact List.mem_cons_self)
  have eput : putK (twK qs (encTw enc ks)) (.inr (Sd.S k) : Key) (.ref q) = twK (qs ++ [q]) (encTw enc (ks ++ [(k, [])])) := by
    have e1 : encTw enc (ks ++ [(k, [])]) = encTw enc ks ++ [(k, [])] := by
      unfold encTw
      rw [List.map_append]
      rfl
    rw [e1, twK_snoc a3.tw]
    unfold putK
    rw [valV_any, hm, if_neg Bool.false_ne_true]
  refine ⟨p, _, rfl, .k a3.hp (by rw [twK_len a3.tw]; unfold encTw; rw [List.length_map]; exact hz), ?_⟩
  have a4 : TreAt X.K F σ G2 (upd H2 p (.dK (putK (twK qs (encTw enc ks)) (.inr (Sd.S k) : Key) (.ref q)))) i (encTw enc (ks ++ [(k, [])])) p (qs ++ [q]) := by
    refine ⟨a3.sl, ?_, a3.gp, a3.fp, ?_, ?_⟩
    · rw [upd_same, eput]
    · have e1 : encTw enc (ks ++ [(k, [])]) = encTw enc ks ++ [(k, [])] := by
        unfold encTw
        rw [List.map_append]
        rfl
      rw [e1]
      refine Twigs.snoc (vs := []) ?_ gq fq ok .nil (a3.tw.map (Evl.Ex.refl _) fun b hb vs k1 k2 k3 => ⟨?_, k2, k3⟩)
      · rw [upd_ne (Ne.symm hpq)]
        exact hq
      · rw [upd_ne fun z => (List.nodup_cons.mp a3.nd).1 (by rw [← z]; exact hb)]
        exact k1
    · obtain ⟨n1, n2⟩ := List.nodup_cons.mp a3.nd
      have n3 : q ∉ qs := fun h => nq (List.mem_cons_of_mem _ h)
      refine List.nodup_cons.mpr ⟨fun h => ?_, List.nodup_append.mpr ⟨n2, List.nodup_cons.mpr ⟨List.not_mem_nil, .nil⟩, fun b hb c hc => ?_⟩⟩
      · rcases List.mem_append.mp h with h | h
        · exact n1 h
        · exact hpq (List.mem_singleton.mp h)
      · rw [List.mem_singleton.mp hc]
        rintro rfl
        exact n3 hb
  have s4 := (s3.hide i a3.sl).tput (x := encTw enc (ks ++ [(k, [])])) (p := p) (qs := qs ++ [q]) (List.getElem?_eq_some_iff.mp h).1 (fun j z hj e => hj (s.tre.one j i z _ e h)) (fun b => b = p) (fun b e => by rw [e]; exact a3.gp) (fun b e => by rw [e]; exact a3.fp) (fun j o pa b e1 hj e2 => by
    have n0 := s3.tre.sep i _ p qs h a3 j o pa b e1 e2
    refine ⟨fun e => n0 (by rw [e]; exact List.mem_cons_self), fun hb => ?_⟩
    rcases List.mem_cons.mp hb with e | hb
    · exact n0 (by rw [e]; exact List.mem_cons_self)
    · rcases List.mem_append.mp hb with hb | hb
      · exact n0 (List.mem_cons_of_mem _ hb)
      · rw [List.mem_singleton.mp hb] at e2
        exact s.fresh b3 e1 e2) (fun b hb u e => by
    rw [upd_ne hb]
    exact e) a4
  have g4 := gr.trans g3
  refine hr _ rfl F G0 σ G2 _ D s4 ⟨g4.g, fun b o eo => ?_, s4.sub, g4.f⟩ (post.up g3.g)
  rw [upd_ne (ne_of_none eo a3.fp)]
  exact g4.h b o eo
/-- y[k].append(e) -/
theorem c_treA (i : Nat) (enc : τ → D) {x : τ} {c : List (List Nat × List τ) → Co S T R} (hX : XOk lv N sc X) (hn : N[i]? = some y) (hl : Vis sc y) (h : Γ[i]? = some (B.tre (encTw enc ks))) (hk : ED X Γ ke (.str k)) (he : ED X Γ e (enc x)) (hin : (getS ks k).isSome = true) (hz : ((getS ks k).getD []).length < sizeLine)
    (hr : ∀ zs, zs = tApp ks k x → BC X E (Γ.set i (.tre (encTw enc zs))) rest Γs Γb f (c zs)) (hsl : NoSl ke := by exact fun _ _ => rfl)
    (hs : swapsWith (.Call (.Attribute (.Subscript (.Name y py) ke spos) "append" apos) [e] [] cpos) none pos.line X.env = pure false := by exact sw_ns rfl)
    (hbase : attributeBase (.Subscript (.Name y py) ke spos) "append" X.env (eval (.Subscript (.Name y py) ke spos) X.env) = eval (.Subscript (.Name y py) ke spos) X.env := by exact ab_ns rfl) (hline : (apos.endLine == cpos.line) = true := by rfl)
    (hfew : ((backTo cpos (starEach (e :: []) X.env)).all (fun x => !x.1) && (backToKw cpos (keywordEach [] X.env)).all (fun x => x.1.isSome) && decide ((e :: ([] : List Expr)).length + ([] : List Keyword).length + (if ([] : List Keyword).isEmpty then 0 else 1) < 30)) = true := by exact few_ok rfl)
    (hst : starEach (e :: []) X.env = (false, eval e X.env) :: starEach [] X.env := by exact starEach_ns rfl) (hplain : (backTo cpos (starEach [] X.env)).any (·.1) = false := by exact plain_ok rfl) (hd : (y == ("__debug__" : Str)) = false := by decide) (hcd : (y == ("__classdict__" : Str)) = false := by decide) :
    BC X E Γ (.Expr (.Call (.Attribute (.Subscript (.Name y py) ke spos) "append" apos) [e] [] cpos) pos :: rest) Γs Γb f (bnd (tApp ks k x) c) := fun F G0 σ G H D s gr post => by
  obtain ⟨p, qs, a⟩ := s.tre.ex i _ h
  refine w_cons (ps_expr (pe_bm PySem.F.plainAttrs_list PySem.F.slot_list_append PySem.F.type_list_append mt_append (pe_dget (by have := room64 hX.room; omega) (pe_var (hX.nm hn) (hX.vs hl) hd hcd) pe_w hsl) (pa_cons pe_w pa_nil hst) hbase hfew hline hst hplain) hs) ?_
  refine ⟨_, a.sl, hk F σ G H s _ fun w G1 H1 g1 i1 => ?_⟩
  obtain ⟨rfl, ok⟩ := i1.keyS
  have s1 := s.grow g1
  have a1 := a.grow g1
  obtain ⟨xs0, hxs0⟩ := Option.isSome_iff_exists.mp hin
  have hmem : k ∈ (encTw enc ks).map (·.1) := by
    unfold encTw
    rw [List.map_map]
    unfold getS at hxs0
    cases hf : ks.find? (fun z => decide (z.1 = k)) with
    | none =>
      rw [hf] at hxs0
      cases hxs0
    | some z =>
      have h1 := List.find?_some hf
      have h2 := List.mem_of_find?_eq_some hf
      exact List.mem_map.mpr ⟨z, h2, by simpa using h1⟩
  obtain ⟨q, vs, xs, b1, b2, b3, b4, b5, b6⟩ := a1.tw.get hmem
  have hxs : xs = xs0.map enc := by
    have e1 : getS (encTw enc ks) k = (getS ks k).map (List.map enc) := by
      unfold getS encTw
      rw [List.find?_map]
      show Option.map _ (Option.map _ (List.find? (fun z : List Nat × List τ => decide (z.1 = k)) ks)) = _
      cases List.find? (fun z : List Nat × List τ => decide (z.1 = k)) ks <;> rfl
    rw [e1, hxs0] at b5
    exact (Option.some.inj b5).symm
  refine ⟨p, .ref q, rfl, by rw [← b1]; exact .k a1.hp, .inl ⟨rfl, vs, .inl (.inl b3)⟩, he F σ G1 H1 s1 _ fun v G2 H2 g2 i2 => ?_⟩
  have s2 := s1.grow g2
  have a2 := a1.grow g2
  obtain ⟨q', vs', xs', c1, c2, c3, c4, c5, c6⟩ := a2.tw.get hmem
  rw [b1] at c1
  cases c1
  have hb3 := g2.h _ _ b3
  rw [c3] at hb3
  cases hb3
  rw [b5] at c5
  cases c5
  refine ⟨q, vs, v, rfl, rfl, c3, ?_, ?_⟩
  · rw [c4, hxs, List.length_map]
    rw [hxs0] at hz
    exact hz
  obtain ⟨n1, n2⟩ := List.nodup_cons.mp a2.nd
  obtain ⟨d1, d2⟩ := c6 n2 v (enc x) i2
  have hpq : p ≠ q := fun z => n1 (by rw [z]; exact b2)
  have a4 : TreAt X.K F σ G2 (upd H2 q (.lst (vs ++ [v]))) i (encTw enc (tApp ks k x)) p qs := by
    rw [encTw_app]
    exact ⟨a2.sl, by rw [upd_ne hpq, d2]; exact a2.hp, a2.gp, a2.fp, d1, a2.nd⟩
  have hqn := a2.no q (List.mem_cons_of_mem _ b2)
  have s4 := (s2.hide i a2.sl).tput (x := encTw enc (tApp ks k x)) (p := p) (qs := qs) (List.getElem?_eq_some_iff.mp h).1 (fun j z hj e => hj (s.tre.one j i z _ e h)) (fun b => b = q) (fun b e => by rw [e]; exact hqn.1) (fun b e => by rw [e]; exact hqn.2) (fun j o pa b e1 hj e2 => by
    have n0 := s2.tre.sep i _ p qs h a2 j o pa b e1 e2
    exact ⟨fun e => n0 (by rw [e]; exact List.mem_cons_of_mem _ b2), n0⟩) (fun b hb u e => by
    rw [upd_ne hb]
    exact e) a4
  have g3 := g1.trans g2
  have g4 := gr.trans g3
  refine hr _ rfl F G0 σ G2 _ D s4 ⟨g4.g, fun b o eo => ?_, s4.sub, g4.f⟩ (post.up g3.g)
  rw [upd_ne (ne_of_none eo hqn.2)]
  exact g4.h b o eo
end
/-! ### trees as data -/
section
variable {K : PySem.W.Frag} {F G H G' H' : Hp} {Γ : List B} {σ : L2.St}
open Classical in
noncomputable def frzs (G H : Hp) (ps : List Addr) : Hp := fun b => if b ∈ ps then H b else G b
theorem frzs_in {ps : List Addr} {b : Addr} (h : b ∈ ps) : frzs G H ps b = H b := if_pos h
theorem frzs_out {ps : List Addr} {b : Addr} (h : b ∉ ps) : frzs G H ps b = G b := if_neg h
def treD {τ : Type} (enc : τ → D) (ks : List (List Nat × List τ)) : D := .dct (encKs (fun l => D.lst (l.map enc)) ks)
theorem Twigs.frz {ps : List Addr} {e : Ex G G'} (hin : ∀ b, b ∈ ps → G' b = H b) : ∀ {qs : List Addr} {x : List (List Nat × List D)}, Twigs K F G H qs x → (∀ q ∈ qs, q ∈ ps) → IsKV K G' (twK qs x) (encKs (fun l : List D => D.lst l) x)
  | _, _, .nil, _ => .nil
  | _, _, .cons h1 h2 h3 h4 h5 t, hp => .cons ⟨_, rfl, h4⟩ (.lst (by rw [hin _ (hp _ List.mem_cons_self)]; exact h1) (h5.up e)) (Twigs.frz (e := e) hin t fun q hq => hp q (List.mem_cons_of_mem _ hq))
theorem treD_eq {τ : Type} {enc : τ → D} {ks : List (List Nat × List τ)} : encKs (fun l : List D => D.lst l) (encTw enc ks) = encKs (fun l : List τ => D.lst (l.map enc)) ks := by
  unfold encKs encTw
  rw [List.map_map]
  rfl
theorem frzs_ex {ps : List Addr} (hn : ∀ q ∈ ps, G q = none) : Ex G (frzs G H ps) := fun b u e => by
  by_cases h : b ∈ ps
  · rw [hn b h] at e
    cases e
  · rw [frzs_out h]
    exact e
theorem Stt.frzT {τ : Type} {enc : τ → D} {ks : List (List Nat × List τ)} (s : Stt K F Γ σ G H) {i : Nat} (e : Γ[i]? = some (B.tre (encTw enc ks))) : ∃ ps : List Addr, (∀ q ∈ ps, G q = none ∧ F q = none ∧ ∃ u, H q = some u) ∧ Stt K F (Γ.set i (.d (treD enc ks))) σ (frzs G H ps) H := by
  obtain ⟨p, qs, a⟩ := s.tre.ex i _ e
  have hn : ∀ q ∈ p :: qs, G q = none := fun q hq => (a.no q hq).1
  have ex : Ex G (frzs G H (p :: qs)) := frzs_ex hn
  refine ⟨p :: qs, fun q hq => ⟨(a.no q hq).1, (a.no q hq).2, ?_⟩, ?_⟩
  · rcases List.mem_cons.mp hq with z | z
    · rw [z]
      exact ⟨_, a.hp⟩
    · obtain ⟨vs, h⟩ := a.tw.here q z
      exact ⟨_, h⟩
  have hl : i < Γ.length := (List.getElem?_eq_some_iff.mp e).1
  have s1 : Stt K F (Γ.set i .un) σ (frzs G H (p :: qs)) H := by
    have s0 := s.hide i a.sl
    refine ⟨s0.len, fun b u eb => ?_, fun j y ej => ?_, fun j o pa ej => ?_, s0.sep, fun j xs ej => ?_, fun j xa xd xf ej => ?_, .noT fun j y ej => ?_⟩
    · by_cases h : b ∈ p :: qs
      · rw [frzs_in h] at eb
        exact eb
      · rw [frzs_out h] at eb
        exact s.sub b u eb
    · obtain ⟨v, h1, h2⟩ := s0.dat j y ej
      exact ⟨v, h1, h2.up ex⟩
    · obtain ⟨q, u, h1, h2, h3, h4, h5, h6⟩ := s0.own j o pa ej
      refine ⟨q, u, h1, h2, ?_, h4, h5.up ex, h6⟩
      rcases set_get ej with ⟨_, h⟩ | ⟨_, ej⟩
      · cases h
      · rw [frzs_out (s.tre.sep i _ p qs e a j o pa q ej h1)]
        exact h3
    · obtain ⟨q, vs, h1, h2, h3, h4⟩ := s0.bor j xs ej
      exact ⟨q, vs, h1, h2, h3, h4.up ex⟩
    · obtain ⟨v, h1, h2⟩ := s0.exc j xa xd xf ej
      exact ⟨v, h1, h2.up ex⟩
    · rcases set_get ej with ⟨_, h⟩ | ⟨h, ej⟩
      · cases h
      · exact h (s.tre.one i j _ _ e ej)
  have s2 := s1.set (x := treD enc ks) i (v := .ref p) (by
    refine .dct (by rw [frzs_in List.mem_cons_self]; exact a.hp) ?_
    have h := Twigs.frz (e := ex) (ps := p :: qs) (fun b hb => frzs_in hb) a.tw fun q hq => List.mem_cons_of_mem _ hq
    rw [treD_eq] at h
    exact h)
  rw [set_same a.sl, List.set_set] at s2
  exact s2
/-- growth from where some things were lent as data -/
theorem Grow.lends {H0 : Hp} {ps : List Addr} (g : Grow (frzs G H0 ps) H G' H') (hn : ∀ q ∈ ps, G q = none) : Grow G H (frzs G' (fun _ => none) ps) H' := by
  have o1 : ∀ {b}, b ∈ ps → frzs G' (fun _ => none) ps b = none := fun h => frzs_in h
  have o2 : ∀ {b}, b ∉ ps → frzs G' (fun _ => none) ps b = G' b := fun h => frzs_out h
  refine ⟨fun b o e => ?_, g.h, fun b o e => ?_, fun b o e m => ?_⟩
  · have hb : b ∉ ps := fun h => by
      rw [hn b h] at e
      cases e
    rw [o2 hb]
    exact g.g b o (by rw [frzs_out hb]; exact e)
  · by_cases hb : b ∈ ps
    · rw [o1 hb] at e
      cases e
    · rw [o2 hb] at e
      exact g.s b o e
  · by_cases hb : b ∈ ps
    · exact o1 hb
    · rw [o2 hb]
      exact g.f b o e (by rw [frzs_out hb]; exact m)
def flatO : OO → Bool
  | .lst ds => ds.all flatD
  | _ => false
theorem IsAll.flat {K : PySem.W.Frag} {G G' : Hp} : ∀ {vs : List V} {ds : List D}, IsAll K G vs ds → ds.all flatD = true → IsAll K G' vs ds
  | _, _, .nil, _ => .nil
  | _, _, .cons h t, f => by
    rw [List.all_cons, Bool.and_eq_true] at f
    exact .cons (h.flat f.1) (t.flat f.2)
theorem OwnIs.flat {K : PySem.W.Frag} {G G' : Hp} {o : OO} {u : HO} (h : OwnIs K G o u) (f : flatO o = true) : OwnIs K G' o u := by
  cases o with
  | lst ds =>
    obtain ⟨vs, rfl, ha⟩ := h.lst
    exact IsAll.flat ha f
  | _ => cases f
theorem all_flat {τ : Type} {enc : τ → D} (h : ∀ x, flatD (enc x) = true) (xs : List τ) : flatO (.lst (xs.map enc)) = true := by
  show (xs.map enc).all flatD = true
  rw [List.all_map]
  exact List.all_eq_true.mpr fun x _ => h x
end
section
variable {X : Cx} {E : XK} {Γ : List B} {S T R : Type} {Γs : S → List B} {Γb : T → List B} {f : R → Res} {sts : List Stmt} {e ke ob : Expr} {pos : Pos} {x : D} {b : Bool} {o : OO} {τ : Type} {enc : τ → D} {ks : List (List Nat × List τ)}
theorem ev_lendT {te : TE} (i : Nat) (h : Γ[i]? = some (B.tre (encTw enc ks))) (hf : flatD x = true) (he : EvD X.K (Γ.set i (.d (treD enc ks))) te x) : EvD X.K Γ te x := fun F σ G H s Q q => by
  obtain ⟨ps, h1, s'⟩ := s.frzT h
  exact he F σ _ H s' Q fun v G' H' g i => q v _ H' (g.lends fun q hq => (h1 q hq).1) (i.flat hf)
theorem ev_lendTO {te : TE} (i : Nat) (h : Γ[i]? = some (B.tre (encTw enc ks))) (hf : flatO o = true) (he : EvO X.K (Γ.set i (.d (treD enc ks))) te o) : EvO X.K Γ te o := fun F σ G H s Q q => by
  obtain ⟨ps, h1, s'⟩ := s.frzT h
  refine he F σ _ H s' Q fun p u G' H' g h2 h3 h4 h5 => q p u _ H' (g.lends fun q hq => (h1 q hq).1) h2 ?_ h4 (h5.flat hf)
  by_cases hp : p ∈ ps
  · exact frzs_in hp
  · rw [frzs_out hp]
    exact h3
theorem ed_lendT (i : Nat) (h : Γ[i]? = some (B.tre (encTw enc ks))) (hf : flatD x = true) (he : ED X (Γ.set i (.d (treD enc ks))) e x) : ED X Γ e x := ev_lendT i h hf he
theorem eo_lendT (i : Nat) (h : Γ[i]? = some (B.tre (encTw enc ks))) (hf : flatO o = true) (he : EO X (Γ.set i (.d (treD enc ks))) e o) : EO X Γ e o := ev_lendTO i h hf he
theorem et_lendT (i : Nat) (h : Γ[i]? = some (B.tre (encTw enc ks))) (he : ET X (Γ.set i (.d (treD enc ks))) e b) : ET X Γ e b := fun F σ G H s Q q => by
  obtain ⟨ps, h1, s'⟩ := s.frzT h
  exact he F σ _ H s' Q fun G' H' g => q _ H' (g.lends fun q hq => (h1 q hq).1)
theorem lc_lendT {elt tg iter : Expr} {ifs : List Expr} {scope : Scope} {own : List (Str × Nat)} (i : Nat) (h : Γ[i]? = some (B.tre (encTw enc ks))) (hf : flatO o = true) (he : LcOk X (Γ.set i (.d (treD enc ks))) elt tg iter ifs scope own o) : LcOk X Γ elt tg iter ifs scope own o := by
  obtain ⟨wi, g, tt, te, h1, h2, h3, h4, h5, h6⟩ := he
  exact ⟨wi, g, tt, te, h1, h2, h3, h4, h5, ev_lendTO i h hf h6⟩
/-- a tree stays from here on -/
theorem c_frzT (i : Nat) {k : Co S T R} (h : Γ[i]? = some (B.tre (encTw enc ks))) (hr : BC X E (Γ.set i (.d (treD enc ks))) sts Γs Γb f k) : BC X E Γ sts Γs Γb f k := fun F G0 σ G H D s gr post => by
  obtain ⟨ps, h1, s'⟩ := s.frzT h
  have ex : Ex G (frzs G H ps) := frzs_ex fun q hq => (h1 q hq).1
  refine hr F G0 σ _ H D s' ⟨gr.g.trans ex, gr.h, s'.sub, fun b o e m => ?_⟩ (PostC.up post ex)
  by_cases hb : b ∈ ps
  · rw [(h1 b hb).2.1] at e
    cases e
  · rw [frzs_out hb]
    exact gr.f b o e m
/-- one's own dict stays from here on -/
theorem c_frzD (i : Nat) {kv : List (Key × D)} {k : Co S T R} (h : Γ[i]? = some (B.own (.dct kv))) (hr : BC X E (Γ.set i (.d (.dct kv))) sts Γs Γb f k) : BC X E Γ sts Γs Γb f k := fun F G0 σ G H D s gr post => by
  obtain ⟨p, u, h1, h2, h3, h4, h5, _⟩ := s.own i _ _ h
  obtain ⟨vs, rfl, iv⟩ := h5.dct
  have ex : Ex G (upd G p (.dK vs)) := Evl.Ex.new h3
  have s0 := s.hide i h1
  have s1 : Stt X.K F (Γ.set i .un) σ (upd G p (.dK vs)) H := by
    refine ⟨s0.len, fun b u eb => ?_, fun j y ej => ?_, fun j o pa ej => ?_, s0.sep, fun j xs ej => ?_, fun j xa xd xf ej => ?_, s0.tre.carry (fun _ _ e => ⟨e, rfl⟩) (fun j y p' qs ej a => ?_) fun j y p' qs ej a => s0.tre.sep j y p' qs ej a⟩
    · by_cases hb : b = p
      · subst hb
        rw [upd_same] at eb
        rw [h2]
        exact eb
      · rw [upd_ne hb] at eb
        exact s.sub b u eb
    · obtain ⟨v, k1, k2⟩ := s0.dat j y ej
      exact ⟨v, k1, k2.up ex⟩
    · obtain ⟨q, u, k1, k2, k3, k4, k5, k6⟩ := s0.own j o pa ej
      rcases set_get ej with ⟨_, z⟩ | ⟨hj, ej⟩
      · cases z
      · have hne : q ≠ p := fun z => by
          subst z
          exact hj (s.sep i j q _ o _ pa h ej h1 k1)
        exact ⟨q, u, k1, k2, by rw [upd_ne hne]; exact k3, k4, k5.up ex, k6⟩
    · obtain ⟨q, ws, k1, k2, k3, k4⟩ := s0.bor j xs ej
      exact ⟨q, ws, k1, k2, k3, k4.up ex⟩
    · obtain ⟨v, k1, k2⟩ := s0.exc j xa xd xf ej
      exact ⟨v, k1, k2.up ex⟩
    · rcases set_get ej with ⟨_, z⟩ | ⟨_, ej⟩
      · cases z
      · exact a.updG h3 (s.tre.sep j y p' qs ej a i _ _ p h h1)
  have s2 := s1.set (x := .dct kv) i (v := .ref p) (.dct upd_same (IsKV.mono ex _ vs iv))
  rw [set_same h1, List.set_set] at s2
  exact hr F G0 σ _ H D s2 (gr.frz h4 h2 h3) (PostC.up post ex)
/-- an item of a dict -/
theorem ed_getD {τ : Type} {ks : List (List Nat × τ)} {k : List Nat} (enc : τ → D) (dflt : τ) (hu : X.A.units + 64 < cLine) (ho : ED X Γ ob (.dct (encKs enc ks))) (he : ED X Γ ke (.str k)) (hk : (getS ks k).isSome = true) (hs : NoSl ke := by exact fun _ _ => rfl) : ED X Γ (.Subscript ob ke pos) (enc ((getS ks k).getD dflt)) := by
  obtain ⟨x, hx⟩ := Option.isSome_iff_exists.mp hk
  rw [hx]
  exact ed_of (pe_dget (by omega) pe_w pe_w hs) fun F σ G H s Q q => ho F σ G H s _ fun u G1 H1 g1 i1 => he F σ G1 H1 (s.grow g1) _ fun v G2 H2 g2 i2 => by
    cases i1 with
    | @dct a vs _ k1 k2 =>
      obtain ⟨rfl, _⟩ := i2.keyS
      obtain ⟨w, k3, k4⟩ := isKV_get k2 hx
      exact ⟨a, w, rfl, by rw [← k3]; exact .k (g2.h _ _ (g1.s _ _ k1)), q w G2 H2 (g1.trans g2) (k4.up g2.g)⟩
end
end Sd

namespace Sd
open PySem PySem.Spec PyProof.Rows L2
/-! ### sorted(texts) -/
def leT (a b : List Nat) : Bool := !ltCps b a
def sortT (xs : List (List Nat)) : List (List Nat) := xs.mergeSort leT
theorem leT_iff {a b : List Nat} : leT a b = true ↔ a ≤ b := by
  unfold leT
  rw [PyProof.Rows.ltCps_eq, Bool.not_eq_true', decide_eq_false_iff_not]
  exact List.not_lt
theorem leT_trans {a b c : List Nat} (h : leT a b = true) (k : leT b c = true) : leT a c = true := leT_iff.mpr (List.le_trans (leT_iff.mp h) (leT_iff.mp k))
theorem leT_total (a b : List Nat) : (leT a b || leT b a) = true := by
  rw [Bool.or_eq_true, leT_iff, leT_iff]
  exact List.le_total a b
theorem leT_anti {a b : List Nat} (h : leT a b = true) (k : leT b a = true) : a = b := List.le_antisymm (leT_iff.mp h) (leT_iff.mp k)
theorem sortT_perm (xs : List (List Nat)) : (sortT xs).Perm xs := List.mergeSort_perm _ _
theorem sortT_pw (xs : List (List Nat)) : (sortT xs).Pairwise (fun a b => leT a b = true) := List.pairwise_mergeSort (le := leT) (fun _ _ _ => leT_trans) leT_total xs
theorem sortT_mem {xs : List (List Nat)} {x : List Nat} : x ∈ sortT xs ↔ x ∈ xs := (sortT_perm xs).mem_iff
theorem sortT_len (xs : List (List Nat)) : (sortT xs).length = xs.length := (sortT_perm xs).length_eq
theorem pw_uniq : ∀ {xs ys : List (List Nat)}, xs.Perm ys → xs.Pairwise (fun a b => leT a b = true) → ys.Pairwise (fun a b => leT a b = true) → xs = ys
  | [], ys, p, _, _ => (List.nil_perm.mp p).symm
  | x :: xs, [], p, _, _ => absurd p.length_eq (by simp)
  | x :: xs, y :: ys, p, h, k => by
    rw [List.pairwise_cons] at h k
    have e : x = y := by
      rcases List.mem_cons.mp (p.mem_iff.mp List.mem_cons_self : x ∈ y :: ys) with e | e
      · exact e
      · rcases List.mem_cons.mp (p.mem_iff.mpr List.mem_cons_self : y ∈ x :: xs) with f | f
        · exact f.symm
        · exact leT_anti (h.1 y f) (k.1 x e)
    subst e
    rw [pw_uniq ((List.perm_cons x).mp p) h.2 k.2]
theorem rising_pw : ∀ {p : Str} {l : List Str}, risingS p l = true → (∀ x ∈ l, leT p.cps.toList x.cps.toList = true) ∧ (l.map fun z => z.cps.toList).Pairwise (fun a b => leT a b = true)
  | p, [], _ => ⟨fun _ h => (nomatch h), .nil⟩
  | p, x :: r, h => by
    unfold risingS at h
    rw [Bool.and_eq_true] at h
    obtain ⟨h1, h2⟩ := rising_pw h.2
    have hx : leT p.cps.toList x.cps.toList = true := h.1
    refine ⟨fun z hz => ?_, ?_⟩
    · rcases List.mem_cons.mp hz with e | e
      · rw [e]
        exact hx
      · exact leT_trans hx (h1 z e)
    · rw [List.map_cons, List.pairwise_cons]
      refine ⟨fun z hz => ?_, h2⟩
      obtain ⟨w, hw, rfl⟩ := List.mem_map.mp hz
      exact h1 w hw
theorem sorted_is {ys : List Str} {xs : List (List Nat)} (p : ys.Perm (xs.map S)) (h : sortedS ys = true) : ys = (sortT xs).map S := by
  have pw : (ys.map fun z => z.cps.toList).Pairwise (fun a b => leT a b = true) := by
    cases ys with
    | nil => exact .nil
    | cons y r =>
      obtain ⟨h1, h2⟩ := rising_pw (p := y) (l := r) h
      rw [List.map_cons, List.pairwise_cons]
      refine ⟨fun z hz => ?_, h2⟩
      obtain ⟨w, hw, rfl⟩ := List.mem_map.mp hz
      exact h1 w hw
  have p2 : (ys.map fun z => z.cps.toList).Perm xs := by
    have q := p.map (fun z : Str => z.cps.toList)
    rw [List.map_map] at q
    have e : xs.map ((fun z : Str => z.cps.toList) ∘ S) = xs := by
      have : ((fun z : Str => z.cps.toList) ∘ S) = id := by
        funext l
        simp [S]
      rw [this, List.map_id]
    rw [e] at q
    exact q
  have e := pw_uniq (p2.trans (sortT_perm xs).symm) pw (sortT_pw xs)
  have e2 := congrArg (List.map S) e
  rw [List.map_map] at e2
  have e3 : (S ∘ fun z : Str => z.cps.toList) = id := by
    funext z
    simp [S]
  rw [e3, List.map_id] at e2
  exact e2
section
variable {X : Cx} {Γ : List B} {a b : Expr} {pos p apos : Pos}
theorem eo_sorted {ls : List (List Nat)} (hg : Gl X "sorted") (hm : X.mg "sorted" = none) (ha : EL X Γ a (ls.map D.str)) (h64 : ls.length < 64) (he : starEach [a] X.env = (false, eval a X.env) :: starEach [] X.env := by exact starEach_ns rfl) (hpl : (backTo pos (starEach [] X.env)).any (·.1) = false := by exact plain_ok rfl) : EO X Γ (.Call (.Name "sorted" p) [a] [] pos) (.lst ((sortT ls).map D.str)) :=
  eo_of (pe_callB cr_sortedS hg hm (by decide +kernel) (pa_cons pe_w pa_nil he) (by decide) (by decide) he hpl) fun F σ G H s Q q => ha F σ G H s _ fun p vs G1 H1 g1 h1 i1 => by
    have e := i1.strs
    have ok := i1.strOk
    subst e
    refine ⟨p, ls.map S, rfl, .inl (.inl ?_), by rw [List.length_map]; exact h64, fun ys r hp hs hr => ?_⟩
    · rw [List.map_map]
      exact h1
    · have e := sorted_is hp hs
      subst e
      refine q r _ G1 _ (g1.trans (Grow.lay g1.s hr)) upd_same (Evl.fresh_back g1.s hr) (Evl.fresh_back g1.h hr) ?_
      show IsAll _ _ (List.map V.str (List.map S (sortT ls))) _
      rw [List.map_map]
      exact IsAll.ofStrs _ fun l hl => ok l (sortT_mem.mp hl)
/-! ### text.count(sign), text.rpartition(sign) -/
noncomputable def countS (l m : List Nat) : Int := Txt.count (S l) (S m)
theorem ed_count {l m : List Nat} (ha : ED X Γ a (.str l)) (hb : ED X Γ b (.str m))
    (hbase : attributeBase a "count" X.env (eval a X.env) = eval a X.env := by exact ab_ns rfl) (hline : (apos.endLine == pos.line) = true := by rfl)
    (hfew : ((backTo pos (starEach (b :: []) X.env)).all (fun x => !x.1) && (backToKw pos (keywordEach [] X.env)).all (fun x => x.1.isSome) && decide ((b :: ([] : List Expr)).length + ([] : List Keyword).length + (if ([] : List Keyword).isEmpty then 0 else 1) < 30)) = true := by exact few_ok rfl)
    (hs : starEach (b :: []) X.env = (false, eval b X.env) :: starEach [] X.env := by exact starEach_ns rfl) (hplain : (backTo pos (starEach [] X.env)).any (·.1) = false := by exact plain_ok rfl) :
    ED X Γ (.Call (.Attribute a "count" apos) [b] [] pos) (.int (countS l m)) :=
  ed_of (pe_bm PySem.F.plainAttrs_str PySem.F.slot_str_count PySem.F.type_str_count mt_count pe_w (pa_cons pe_w pa_nil hs) hbase hfew hline hs hplain) fun F σ G H s Q q => ha F σ G H s _ fun v G1 H1 g1 i1 => by
    cases i1
    refine ⟨rfl, hb F σ G1 H1 (s.grow g1) _ fun w G2 H2 g2 i2 => ?_⟩
    cases i2
    exact ⟨_, _, rfl, rfl, q _ G2 H2 (g1.trans g2) (.int _)⟩
end
/-- x.rpartition(sep) -/
theorem mt_rpart {X : Cx} : MtR X "str.rpartition" (fun x xs H Q => ∃ a b, x = .str a ∧ xs = [.str b] ∧ (b.length == 0) = false ∧ a.length ≤ sizeLine ∧
    ∀ p, H p = none → Q (.ref p) (upd H p (.tup [.str (Txt.rpartition a b).1, .str (Txt.rpartition a b).2.1, .str (Txt.rpartition a b).2.2]))) := by
  intro pins s σ H x xs v us Q I rx rs k
  obtain ⟨y, z, rfl, rfl, hne, hl, k⟩ := k
  obtain ⟨tk, rfl⟩ := rx
  cases rs with
  | cons r0 rs =>
    cases rs
    obtain ⟨tk', rfl⟩ := r0
    refine call_meets F.slot_str_rpartition (typeIs_str _ _ _) F.entry_str_rpartition (F.args_str_rpartition_2 _ _) (meets_str_rpartition y z tk tk' hne hl) ?_
    unfold Txt.rpartition at k
    revert k
    cases Builtin.Str.lastOccurrence y z 0 y.length with
    | none => exact fun k => laid_parts I k
    | some j => exact fun k => laid_parts I k
noncomputable def rpS (l : List Nat) (c : Nat) : List Nat × List Nat × List Nat := ((Txt.rpartition (S l) (S [c])).1.cps.toList, (Txt.rpartition (S l) (S [c])).2.1.cps.toList, (Txt.rpartition (S l) (S [c])).2.2.cps.toList)
theorem sub_ok {l : List Nat} {i j : Nat} : (Builtin.Str.strSub (S l) i j).cps.toList.length ≤ l.length ∧ ∀ x ∈ (Builtin.Str.strSub (S l) i j).cps.toList, x ∈ l := by
  have e : (Builtin.Str.strSub (S l) i j).cps.toList = (l.drop i).take (j - i) := by
    unfold Builtin.Str.strSub
    rw [Array.toList_extract]
  rw [e]
  refine ⟨?_, fun x hx => List.mem_of_mem_drop (List.mem_of_mem_take hx)⟩
  rw [List.length_take, List.length_drop]
  omega
theorem rpS_ok {l : List Nat} {c : Nat} (hc : c < 0x110000) (h : StrOk l) : StrOk (rpS l c).1 ∧ StrOk (rpS l c).2.1 ∧ StrOk (rpS l c).2.2 := by
  have h0 : StrOk [] := ⟨Nat.zero_le _, rfl⟩
  have h1 : StrOk [c] := ⟨by show 1 ≤ LMax; decide, by unfold chrOk; simpa using hc⟩
  have hs : ∀ i j, StrOk (Builtin.Str.strSub (S l) i j).cps.toList := fun i j => h.sub sub_ok.2 sub_ok.1
  unfold rpS Txt.rpartition
  cases Builtin.Str.lastOccurrence (S l) (S [c]) 0 (S l).length with
  | none => exact ⟨by simpa [Str.empty] using h0, by simpa [Str.empty] using h0, by simpa [S] using h⟩
  | some j => exact ⟨hs _ _, by simpa [S] using h1, hs _ _⟩
theorem rpS_len {l : List Nat} {c : Nat} : (rpS l c).1.length ≤ l.length := by
  unfold rpS Txt.rpartition
  cases Builtin.Str.lastOccurrence (S l) (S [c]) 0 (S l).length with
  | none => exact Nat.zero_le _
  | some j => exact sub_ok.1
theorem rpS_mem {l : List Nat} {c : Nat} : ∀ x ∈ (rpS l c).1, x ∈ l := by
  unfold rpS Txt.rpartition
  cases Builtin.Str.lastOccurrence (S l) (S [c]) 0 (S l).length with
  | none => exact fun x hx => nomatch hx
  | some j => exact sub_ok.2
section
variable {X : Cx} {Γ : List B} {a b : Expr} {pos p apos : Pos}
theorem ed_rpart {l : List Nat} {c : Nat} (ha : ED X Γ a (.str l)) (hb : ED X Γ b (.str [c])) (hc : c < 256)
    (hbase : attributeBase a "rpartition" X.env (eval a X.env) = eval a X.env := by exact ab_ns rfl) (hline : (apos.endLine == pos.line) = true := by rfl)
    (hfew : ((backTo pos (starEach (b :: []) X.env)).all (fun x => !x.1) && (backToKw pos (keywordEach [] X.env)).all (fun x => x.1.isSome) && decide ((b :: ([] : List Expr)).length + ([] : List Keyword).length + (if ([] : List Keyword).isEmpty then 0 else 1) < 30)) = true := by exact few_ok rfl)
    (hs : starEach (b :: []) X.env = (false, eval b X.env) :: starEach [] X.env := by exact starEach_ns rfl) (hplain : (backTo pos (starEach [] X.env)).any (·.1) = false := by exact plain_ok rfl) :
    ED X Γ (.Call (.Attribute a "rpartition" apos) [b] [] pos) (.tup [.str (rpS l c).1, .str (rpS l c).2.1, .str (rpS l c).2.2]) :=
  ed_of (pe_bm PySem.F.plainAttrs_str PySem.F.slot_str_rpartition PySem.F.type_str_rpartition mt_rpart pe_w (pa_cons pe_w pa_nil hs) hbase hfew hline hs hplain) fun F σ G H s Q q => ha F σ G H s _ fun v G1 H1 g1 i1 => by
    have ok := i1.strOk
    cases i1
    refine ⟨rfl, hb F σ G1 H1 (s.grow g1) _ fun w G2 H2 g2 i2 => ?_⟩
    cases i2
    refine ⟨_, _, rfl, rfl, rfl, by rw [S_len]; exact ok.le, fun r hr => ?_⟩
    obtain ⟨k1, k2, k3⟩ := rpS_ok (c := c) (by omega) ok
    have e : ∀ z : Str, V.str z = V.str (S z.cps.toList) := fun z => by simp [S]
    refine q _ _ _ ((g1.trans g2).trans (Grow.new g2.s hr)) (.tup (.inl (.inl upd_same)) ?_)
    rw [e (Txt.rpartition (S l) (S [c])).1, e (Txt.rpartition (S l) (S [c])).2.1, e (Txt.rpartition (S l) (S [c])).2.2]
    exact .cons (.str _ k1) (.cons (.str _ k2) (.cons (.str _ k3) .nil))
end
/-! ### __init__ with steps of its own, that may raise -/
def PostN (K : PySem.W.Frag) (n : Str) (G H : Hp) (x : Addr) (Q : VK) (E : XK) {τ : Type} (encF : τ → List (Str × D)) : Out τ → Prop
  | .ok z => ∀ G' H' C dx xs, Grow G (dl H x) G' (dl H' x) → H' x = some (.ins C dx xs) → PySem.W.nsIn K mainGlobals n = some (some (.ref C)) → G' x = none → IsFs K G' xs (encF z) → Q .non H'
  | .err e => ∀ cls d G' H', Grow G (dl H x) G' H' → ExIs K G' H' e cls d → E cls d H'
  | .stk => False
def spN (K : PySem.W.Frag) (n : Str) {A τ : Type} (enc : A → List AK) (encF : τ → List (Str × D)) (r : A → Out τ) : Sp := fun vs H Q E => ∃ (x dx C : Addr) (ws : List V) (a : A) (G : Hp), vs = .ref x :: ws ∧ ClsA K n C ∧ H x = some (.ins C dx []) ∧ G x = none ∧ Ex G H ∧ IsAs K G H ws (enc a) ∧ PostN K n G H x Q E encF (r a)
def outN {τ : Type} : Co τ Empty Unit → Out τ
  | .go z => .ok z
  | .brk b => nomatch b
  | .ret (.ok _) => .stk
  | .ret (.err e) => .err e
  | .ret .stk => .stk
theorem Stt.named {K : PySem.W.Frag} {F : Hp} {Γ : List B} {σ : L2.St} {G H : Hp} {i : Nat} {o : OO} {p : Addr} (s : Stt K F (Γ.set i (.own o)) σ G H) (hi : i < Γ.length) (e : σ[i]? = some (some (.ref p))) : Stt K F (Γ.set i (.own o (some p))) σ G H := by
  have hl := s.len
  rw [List.length_set] at hl
  have back : ∀ {j : Nat} {b : B}, (Γ.set i (.own o (some p)))[j]? = some b → (i = j ∧ b = .own o (some p)) ∨ (i ≠ j ∧ (Γ.set i (.own o))[j]? = some b) := fun {j b} e => by
    rcases set_get e with h | ⟨h, e⟩
    · exact .inl h
    · exact .inr ⟨h, by rw [List.getElem?_set_ne h]; exact e⟩
  have here : (Γ.set i (B.own o))[i]? = some (.own o) := List.getElem?_set_self hi
  have own : ∀ {j : Nat} {o' : OO} {pa : Option Addr}, (Γ.set i (.own o (some p)))[j]? = some (.own o' pa) → ∃ pb, (Γ.set i (.own o))[j]? = some (.own o' pb) := fun {j o' pa} e => by
    rcases back e with ⟨rfl, h⟩ | ⟨_, h⟩
    · cases h
      exact ⟨_, here⟩
    · exact ⟨_, h⟩
  refine ⟨by rw [List.length_set]; exact hl, s.sub, fun j y ej => ?_, fun j o' pa ej => ?_, fun j k q o1 o2 pa pb e1 e2 e3 e4 => ?_, fun j xs ej => ?_, fun j xa xd xf ej => ?_, s.tre.sub (fun j x ej => ?_) fun j o' pa ej => ?_⟩
  · rcases back ej with ⟨_, h⟩ | ⟨_, h⟩
    · cases h
    · exact s.dat j y h
  · rcases back ej with ⟨h1, h⟩ | ⟨_, h⟩
    · cases h
      subst h1
      obtain ⟨q, u, k1, k2, k3, k4, k5, _⟩ := s.own i o _ here
      rw [e] at k1
      cases k1
      exact ⟨p, u, e, k2, k3, k4, k5, fun a z => (Option.some.inj z).symm⟩
    · exact s.own j o' pa h
  · obtain ⟨p1, f1⟩ := own e1
    obtain ⟨p2, f2⟩ := own e2
    exact s.sep j k q o1 o2 p1 p2 f1 f2 e3 e4
  · rcases back ej with ⟨_, h⟩ | ⟨_, h⟩
    · cases h
    · exact s.bor j xs h
  · rcases back ej with ⟨_, h⟩ | ⟨_, h⟩
    · cases h
    · exact s.exc j xa xd xf h
  · rcases back ej with ⟨_, h⟩ | ⟨_, h⟩
    · cases h
    · exact ⟨h, rfl⟩
  · obtain ⟨pb, h⟩ := own ej
    exact ⟨⟨_, _, h⟩, rfl⟩
theorem OwnIs.ins {K : PySem.W.Frag} {G : Hp} {n : Str} {ds : List (Str × D)} {u : HO} (h : OwnIs K G (.ins n ds) u) : ∃ C dx xs, u = .ins C dx xs ∧ PySem.W.nsIn K mainGlobals n = some (some (.ref C)) ∧ IsFs K G xs ds := by
  cases u with
  | ins C dx xs => exact ⟨C, dx, xs, rfl, h.1, h.2⟩
  | _ => exact h.elim
section
variable {X : Cx} {E : XK} {Γ : List B} {S T R : Type} {Γs : S → List B} {Γb : T → List B} {f : R → Res} {rest : List Stmt} {pos py apos : Pos} {lv : Nat} {N : List Str} {sc : Scope} {y fd n : Str} {e : Expr} {pa : Option Addr} {fs : List (Str × D)} {d : D}
/-- self.f = e -/
theorem c_sfld (i : Nat) {k : Co S T R} (hX : XOk lv N sc X) (hn : N[i]? = some y) (hl : Vis sc y) (h : Γ[i]? = some (B.own (.ins n fs) pa)) (hf : FldA X.K n fd) (he : ED X Γ e d) (hz : fs.length < 1000) (hr : BC X E (Γ.set i (.own (.ins n (putD fd d fs)) pa)) rest Γs Γb f k)
    (hs : swapsWith e (some (.Attribute (.Name y py) fd apos)) pos.line X.env = pure false := by exact sw_ns rfl) (hd : (y == ("__debug__" : Str)) = false := by decide) (hcd : (y == ("__classdict__" : Str)) = false := by decide) :
    BC X E Γ (.Assign [.Attribute (.Name y py) fd apos] e pos :: rest) Γs Γb f k := fun F G0 σ G H D s gr post => by
  obtain ⟨p, u, h1, h2, h3, h4, h5, _⟩ := s.own i _ _ h
  obtain ⟨C, dx, xs, rfl, hC, iv⟩ := h5.ins
  obtain ⟨C', hc, hno⟩ := hf.ex
  have eC : C = C' := hc.eq hC
  subst eC
  refine w_cons (ps_fld (pe_var (hX.nm hn) (hX.vs hl) hd hcd) pe_w hs) (he F σ G H s _ fun v G1 H1 g1 i1 => ⟨_, h1, p, C, dx, xs, rfl, g1.h _ _ h2, hc.cl, hno, by rw [iv.len]; exact hz, ?_⟩)
  have s1 := s.grow g1
  have s2 := s1.mut (u := .ins C dx (putF fd v xs)) (o' := .ins n (putD fd d fs)) h h1 (show _ ∧ _ from ⟨hC, IsFs.put i1 (IsFs.mono g1.g fs xs iv)⟩)
  have g2 := gr.trans g1
  refine hr F G0 σ G1 _ D s2 ⟨g2.g, fun b o eo => ?_, s2.sub, g2.f⟩ (PostC.up post g1.g)
  rw [upd_ne (ne_of_none eo h4)]
  exact g2.h b o eo
end
section
variable {P : Program} {w : World} {K : PySem.W.Frag} {mg : Str → Option Value} {base : Heap} {x qual n : Str} {st : Stmt} {fa : Addr} {fd : FuncData} {N ps : List Str} {lv : Nat} {A τ : Type} {enc : A → List AK} {encF : τ → List (Str × D)}
theorem init_okN (Fu : Fun K x qual st fa fd) {nm : Str} (S : FnScope (nm :: N) ps (defScope st)) (hlen : ∀ a, (enc a).length + 1 = ps.length) (k : A → Co τ Empty Unit)
    (hb : ∀ a, ∀ (X : Cx) (E : XK), X.prog = P → X.w = w → X.K = K → X.mg = mg → X.base = base → XOk lv (nm :: N) (defScope st) X → XCm X E → ∀ x,
      BC X E (.own (.ins n []) (some x) :: ((enc a).map bOf ++ List.replicate (N.length - (enc a).length) B.un)) (defBody st) (fun z => .own (.ins n (encF z)) (some x) :: List.replicate N.length B.un) (fun s : Empty => nomatch s) (fun _ : Unit => Res.stk) (k a)) : FnOk P w K mg base (L2.CX P w) (lv + 1) fa fd ps (spN K n enc encF (fun a => outN (k a))) := by
  refine Fu.okX S (fun vs H Q E h => ?_) (fun cdv Ar outer s H vs Q E hr h => ?_)
  · obtain ⟨x, dx, C, ws, a, G, rfl, _, _, _, _, h2, _⟩ := h
    rw [List.length_cons, h2.len, hlen]
  · obtain ⟨x, dx, C, ws, a, G, rfl, hC, hx, gx, h1, h2, h4⟩ := h
    have h4 : PostN K n G H x Q E encF (outN (k a)) := h4
    generalize hX : cxOf (L2.CX P w) P w K mg base (nm :: N) qual (defScope st) fa cdv Ar outer s H E = X
    have ok : XOk lv (nm :: N) (defScope st) X := by
      subst hX
      exact ⟨⟨hr.dp, hr.un⟩, fun _ => rfl, rfl, rfl, S.nd, S.kind, rfl, rfl⟩
    have cm : XCm X E := by
      subst hX
      exact ⟨rfl, hr.hd, passes_of rfl, takes_of rfl rfl rfl rfl⟩
    have b := hb a X E (by subst hX; rfl) (by subst hX; rfl) (by subst hX; rfl) (by subst hX; rfl) (by subst hX; rfl) ok cm x
    have hK : X.K = K := by subst hX; rfl
    refine ⟨wS X (defBody st), pss_w, ?_⟩
    have e : L2.start (nm :: N) (V.ref x :: ws) = some (V.ref x) :: L2.start N ws := by
      unfold L2.start
      simp
    rw [e]
    have s0 := (stt_startN (N := N) h2 h1).cons (some (V.ref x))
    -- the frame without the thing itself
    have s1 : Stt K (dl H x) (B.un :: ((enc a).map bOf ++ List.replicate (N.length - (enc a).length) B.un)) (some (V.ref x) :: L2.start N ws) G H := by
      refine ⟨s0.len, s0.sub, s0.dat, fun i o pa h => absurd h (noOwn_of bor_ne i o pa), s0.sep, fun i xs h => ?_, s0.exc, s0.tre.carry (fun _ _ e => ⟨e, rfl⟩) (fun j y p' qs e a => a.map (Evl.Ex.refl _) fun b _ w k1 k2 k3 => ⟨k1, k2, by
        by_cases hq : b = x
        · rw [hq, dl_self]
        · rw [dl_ne hq]
          exact k3⟩) fun i x p qs e a => s0.tre.sep i x p qs e a⟩
      obtain ⟨q, us, k1, k2, k3, k4⟩ := s0.bor i xs h
      refine ⟨q, us, k1, k2, ?_, k4⟩
      rw [dl_ne fun z => ?_]
      · exact k3
      · rw [z, hx] at k2
        cases k2
    have s2 := s1.setO (p := x) (u := .ins C dx []) (o := .ins n []) 0 hx gx dl_self (show _ ∧ _ from ⟨hC.nm, .nil⟩) (fun j o' pa _ e => absurd e (noOwn_of bor_ne j o' pa)) fun j y p' qs _ e a => a.ne hx (fun _ e => nomatch e) fun _ e => nomatch e
    have s3 := s2.named (Nat.succ_pos _) rfl
    refine b (dl H x) G _ G H _ ?_ (Grow.startM h1) ?_
    · rw [hK]
      exact s3
    · rw [hK]
      cases hka : k a with
      | go z =>
        rw [hka] at h4
        intro σ' G' H' _ s' gr
        obtain ⟨p, u, k1, k2, k3, k4, k5, k6⟩ := s'.own 0 _ _ rfl
        cases k6 x rfl
        obtain ⟨C2, dx2, xs2, rfl, hC2, iv⟩ := k5.ins
        have h4 : ∀ G' H' C dx xs, Grow G (dl H x) G' (dl H' x) → H' x = some (.ins C dx xs) → PySem.W.nsIn K mainGlobals n = some (some (.ref C)) → G' x = none → IsFs K G' xs (encF z) → Q .non H' := h4
        refine h4 G' H' C2 dx2 xs2 ⟨gr.g, fun b o e => ?_, fun b o e => ?_, gr.f⟩ k2 hC2 k3 iv
        · have hb : b ≠ x := fun z => by
            rw [z, dl_self] at e
            cases e
          rw [dl_ne hb]
          exact gr.h b o e
        · rw [dl_ne (ne_of_none e k3)]
          exact gr.s b o e
      | brk b => exact nomatch b
      | ret r =>
        rw [hka] at h4
        cases r with
        | ok z => exact h4
        | err e => exact h4
        | stk => exact h4
end
/-- C(..), where __init__ may raise -/
theorem run_mkN {X : Cx} {E : XK} {k : Nat} {C fa : Addr} {fd : FuncData} {ps : List Str} {sp : Sp} {pins : List (Addr × Obj)} {σ : L2.St} {H : Hp} {s : Shared} {Q : VK} {us : List Value} {vs : List V} (M : Mk X.K C fa) (Fo : FnOk X.prog X.w X.K X.mg X.base (L2.CX X.prog X.w) k fa fd ps sp) (room : Room (k + 1) X.A) (bi : Binds X.K fd ps [])
    (px : PassesAt (L2.CX X.prog X.w) X σ E) (I : Inv X pins σ H s) (rv : Vals vs us)
    (go : ∀ x dx, H x = none → H dx = none → dx ≠ x → sp (.ref x :: vs) (upd (upd H dx (.own x)) x (.ins C dx [])) (fun v H2 => v = .non ∧ Q (.ref x) H2) E) : wpAny (model X.prog X.w) X.A (call (.ref C) us) (EP X pins σ Q) X.xe s := by
  have g := go (s.heap.objs.size + 1) s.heap.objs.size (I.hok.fresh (Nat.le_succ _)) (I.hok.fresh (Nat.le_refl _)) (Nat.ne_of_lt (Nat.lt_succ_self _))
  have J := Inv.made (C := C) I
  have rw' : Vals (V.ref (s.heap.objs.size + 1) :: vs) (Value.ref (s.heap.objs.size + 1) :: us) := .cons rfl rv
  have len : (Value.ref (s.heap.objs.size + 1) :: us ++ ([] : List Value)).length = ps.length := by
    have e := rw'.length
    rw [Fo.len _ _ _ _ g] at e
    rw [List.append_nil]
    exact e.symm
  have bd := bi _ (Value.ref (s.heap.objs.size + 1) :: us) J.kIn len
  rw [List.append_nil] at bd
  refine wpAny_call (make_map (f := fa) I.kIn M.makes M.init (beq_iff_eq.mp M.fn) (codeAny_mono (Fo.run _ X.stack _ _ ⟨Value.ref (s.heap.objs.size + 1) :: us, []⟩ (Value.ref (s.heap.objs.size + 1) :: us) _ _ E (room.make C us [])
    (J.env0.make C us []) bd rw' g) fun fl s' done => ?_))
  cases fl with
  | error e => exact px pins _ _ e s' J done
  | ok fl =>
    cases fl with
    | ret u =>
      obtain ⟨v, H2, I2, r2, ev, last⟩ := J.after done
      subst ev
      exact ⟨r2, ⟨V.ref (s.heap.objs.size + 1), H2, I2, rfl, last⟩⟩
    | next => exact done.elim
    | brk => exact done.elim
    | cont => exact done.elim
def tMakeN (C : Addr) (sp : Sp) (E : L2.St → XK) (t : TA) : TE := fun σ H Q => t σ H fun vs H1 => ∀ x dx, H1 x = none → H1 dx = none → dx ≠ x → sp (.ref x :: vs) (upd (upd H1 dx (.own x)) x (.ins C dx [])) (fun v H2 => v = .non ∧ Q (.ref x) H2) (E σ)
section
variable {X : Cx} {E : L2.St → XK} {Γ : List B} {pos p : Pos} {n : Str} {lv : Nat} {A τ : Type} {enc : A → List AK} {encF : τ → List (Str × D)} {r : A → Out τ} {e : Expr} {es : List Expr}
theorem pe_makeN {C fa : Addr} {fd : FuncData} {ps : List Str} {sp : Sp} {t : TA} (M : Mk X.K C fa) (Fo : FnOk X.prog X.w X.K X.mg X.base (L2.CX X.prog X.w) lv fa fd ps sp) (room : Room (lv + 1) X.A) (hg : Gl X n) (hm : X.mg n = some (.ref C)) (bi : Binds X.K fd ps []) (px : PsAt X E)
    (ha : PA X (e :: es) t) (hdb : (n == ("__debug__" : Str)) = false) (he : starEach (e :: es) X.env = (false, eval e X.env) :: starEach es X.env) (hpl : (backTo pos (starEach es X.env)).any (·.1) = false) : PE X (.Call (.Name n p) (e :: es) [] pos) (tMakeN C sp E t) := by
  refine ⟨fun pins s σ H Q I h => ?_⟩
  refine wpAny_Call_Name_kw (ld_glob I hg hm ?_ hdb)
  exact PySem.W.callWith_K (h₀ := X.base) I.ok.mod.kin M.kp (thn (ha.run pos pins s σ H _ I h) fun us s1 ⟨vs, H1, I1, rv, q⟩ => ⟨I1.kIn, run_mkN M Fo room bi (px σ) I1 rv q⟩) he hpl
theorem es_makeN (a : A) (tk : PsAt X E) (hk : MkX X n lv (spN X.K n enc encF r)) (hr : Room (lv + 1) X.A) (hg : Gl X n) (ha : EA2 X Γ (e :: es) (enc a))
    (hdb : (n == ("__debug__" : Str)) = false := by decide) (he : starEach (e :: es) X.env = (false, eval e X.env) :: starEach es X.env := by exact starEach_ns rfl) (hpl : (backTo pos (starEach es X.env)).any (·.1) = false := by exact plain_ok rfl) : ERs X E Γ (.Call (.Name n p) (e :: es) [] pos) (rsOf (fun z => .v (.ins n (encF z))) (r a)) := by
  obtain ⟨C, f, fd, ps, h1, hC, hM, hF, hB⟩ := hk.ex
  refine es_of (pe_makeN hM hF hr hg h1 hB tk pa_w hdb he hpl) fun F σ G H s Q q => ha F σ G H s _ fun vs G1 H1 g1 i1 x dx hx hdx hne => ?_
  have gx : G1 x = none := Evl.fresh_back g1.s hx
  have up : ∀ b o, H1 b = some o → (upd (upd H1 dx (.own x)) x (.ins C dx [])) b = some o := fun b o eb => by
    rw [upd_ne (ne_of_none eb hx), upd_ne (ne_of_none eb hdx)]
    exact eb
  have upx : ∀ b o, H1 b = some o → dl (upd (upd H1 dx (.own x)) x (.ins C dx [])) x b = some o := fun b o eb => by
    rw [dl_ne (ne_of_none eb hx)]
    exact up b o eb
  have i2 : IsAs X.K G1 (upd (upd H1 dx (.own x)) x (.ins C dx [])) vs (enc a) := by
    generalize enc a = as at i1
    induction i1 with
    | nil => exact .nil
    | d h _ ih => exact .d h ih
    | l h1 h2 _ ih => exact .l (up _ _ h1) h2 ih
  refine ⟨x, dx, C, vs, a, G1, rfl, hC, upd_same, gx, fun b o eb => up b o (g1.s b o eb), i2, ?_⟩
  cases hra : r a with
  | ok z =>
    rw [hra] at q
    have q : ∀ v G' H', Grow G H G' H' → Is X.K G' v (.ins n (encF z)) → Q v H' := q
    intro G' H' C' dx' xs g hx' hC' gx' hi
    refine ⟨rfl, ?_⟩
    have g2 : Grow G1 H1 G' H' := ⟨g.g, fun b o eb => by
      have z := g.h b o (upx b o eb)
      rw [dl_ne (ne_of_none eb hx)] at z
      exact z, fun b o eb => by
      have z := g.s b o eb
      rw [dl_ne (ne_of_none eb gx')] at z
      exact z, fun b o eb mb => g.f b o (upx b o eb) mb⟩
    exact q (.ref x) (upd G' x (.ins C' dx' xs)) H' (g1.trans (g2.frz hx hx' gx')) (.ins hC' upd_same (IsFs.mono (Evl.Ex.new gx') _ _ hi))
  | err y =>
    rw [hra] at q
    have q : ∀ cls d G' H', Grow G H G' H' → ExIs X.K G' H' y cls d → E σ cls d H' := q
    exact fun cls d G' H' g hi => q cls d G' H' (g1.trans ⟨g.g, fun b o eb => g.h b o (upx b o eb), g.s, fun b o eb mb => g.f b o (upx b o eb) mb⟩) hi
  | stk =>
    rw [hra] at q
    exact q.elim
end
end Sd

namespace Sd
open PySem PySem.Spec PyProof.Rows L2
/-! ### things lent as data, where the answer is flat -/
def Lend (K : PySem.W.Frag) (Γ : List B) (i : Nat) (d : D) : Prop := ∀ F σ G H, Stt K F Γ σ G H → ∃ ps : List Addr, (∀ q ∈ ps, G q = none) ∧ Stt K F (Γ.set i (.d d)) σ (frzs G H ps) H
theorem lendTr {K : PySem.W.Frag} {Γ : List B} {i : Nat} {τ : Type} {enc : τ → D} {ks : List (List Nat × List τ)} (h : Γ[i]? = some (B.tre (encTw enc ks))) : Lend K Γ i (treD enc ks) := fun F σ G H s => by
  obtain ⟨ps, h1, h2⟩ := s.frzT h
  exact ⟨ps, fun q hq => (h1 q hq).1, h2⟩
theorem frzs_one {G H : Hp} {p : Addr} {u : HO} (h : H p = some u) : frzs G H [p] = upd G p u := by
  funext b
  by_cases hb : b = p
  · rw [hb, frzs_in List.mem_cons_self, upd_same, h]
  · rw [frzs_out (by simpa using hb), upd_ne hb]
theorem frzs_nil {G H : Hp} : frzs G H [] = G := by
  funext b
  exact frzs_out (by simp)
theorem lendOw {K : PySem.W.Frag} {Γ : List B} {i : Nat} {ds : List D} (h : Γ[i]? = some (B.own (.lst ds))) : Lend K Γ i (.lst ds) := fun F σ G H s => by
  obtain ⟨p, vs, h1, h2, h3, h4, s'⟩ := s.frzL h
  refine ⟨[p], fun q hq => by rw [List.mem_singleton.mp hq]; exact h3, ?_⟩
  rw [frzs_one h2]
  exact s'
theorem lendBo {K : PySem.W.Frag} {Γ : List B} {i : Nat} {ds : List D} (h : Γ[i]? = some (B.bor ds)) : Lend K Γ i (.lst ds) := fun F σ G H s => by
  obtain ⟨p, vs, h1, h2, h3, h4⟩ := s.bor i _ h
  cases hg : G p with
  | some u =>
    have e := s.sub p u hg
    rw [h2] at e
    cases e
    refine ⟨[], fun q hq => absurd hq List.not_mem_nil, ?_⟩
    rw [frzs_nil]
    have s1 := s.set i (v := .ref p) (x := .lst ds) (.lst hg h4)
    rw [set_same h1] at s1
    exact s1
  | none =>
    refine ⟨[p], fun q hq => by rw [List.mem_singleton.mp hq]; exact hg, ?_⟩
    rw [frzs_one h2]
    have ex : Ex G (upd G p (.lst vs)) := Evl.Ex.new hg
    have s1 : Stt K F Γ σ (upd G p (.lst vs)) H := by
      refine ⟨s.len, fun b u eb => ?_, fun j y ej => ?_, fun j o pa ej => ?_, s.sep, fun j xs ej => ?_, fun j xa xd xf ej => ?_, s.tre.carry (fun _ _ e => ⟨e, rfl⟩) (fun j y p' qs ej a => a.updG hg fun hm => ?_) fun j y p' qs ej a => s.tre.sep j y p' qs ej a⟩
      · by_cases hb : b = p
        · subst hb
          rw [upd_same] at eb
          rw [h2]
          exact eb
        · rw [upd_ne hb] at eb
          exact s.sub b u eb
      · obtain ⟨v, k1, k2⟩ := s.dat j y ej
        exact ⟨v, k1, k2.up ex⟩
      · obtain ⟨q, u, k1, k2, k3, k4, k5, k6⟩ := s.own j o pa ej
        have hne : q ≠ p := fun z => by
          rw [z, h3] at k4
          cases k4
        exact ⟨q, u, k1, k2, by rw [upd_ne hne]; exact k3, k4, k5.up ex, k6⟩
      · obtain ⟨q, ws, k1, k2, k3, k4⟩ := s.bor j xs ej
        exact ⟨q, ws, k1, k2, k3, k4.up ex⟩
      · obtain ⟨v, k1, k2⟩ := s.exc j xa xd xf ej
        exact ⟨v, k1, k2.up ex⟩
      · have := (a.no p hm).2
        rw [h3] at this
        cases this
    have s2 := s1.set i (v := .ref p) (x := .lst ds) (.lst upd_same (h4.up ex))
    rw [set_same h1] at s2
    exact s2
section
variable {X : Cx} {E : XK} {Γ : List B} {S T R : Type} {Γs : S → List B} {Γb : T → List B} {f : R → Res} {sts : List Stmt} {e ke ob : Expr} {pos : Pos} {x d : D} {b : Bool} {o : OO} {τ : Type} {enc : τ → D}
theorem ev_lendG {te : TE} (i : Nat) (h : Lend X.K Γ i d) (hf : flatD x = true) (he : EvD X.K (Γ.set i (.d d)) te x) : EvD X.K Γ te x := fun F σ G H s Q q => by
  obtain ⟨ps, h1, s'⟩ := h F σ G H s
  exact he F σ _ H s' Q fun v G' H' g i => q v _ H' (g.lends h1) (i.flat hf)
theorem ev_lendGO {te : TE} (i : Nat) (h : Lend X.K Γ i d) (hf : flatO o = true) (he : EvO X.K (Γ.set i (.d d)) te o) : EvO X.K Γ te o := fun F σ G H s Q q => by
  obtain ⟨ps, h1, s'⟩ := h F σ G H s
  refine he F σ _ H s' Q fun p u G' H' g h2 h3 h4 h5 => q p u _ H' (g.lends h1) h2 ?_ h4 (h5.flat hf)
  by_cases hp : p ∈ ps
  · exact frzs_in hp
  · rw [frzs_out hp]
    exact h3
theorem ed_lendG (i : Nat) (h : Lend X.K Γ i d) (hf : flatD x = true) (he : ED X (Γ.set i (.d d)) e x) : ED X Γ e x := ev_lendG i h hf he
theorem eo_lendG (i : Nat) (h : Lend X.K Γ i d) (hf : flatO o = true) (he : EO X (Γ.set i (.d d)) e o) : EO X Γ e o := ev_lendGO i h hf he
theorem et_lendG (i : Nat) (h : Lend X.K Γ i d) (he : ET X (Γ.set i (.d d)) e b) : ET X Γ e b := fun F σ G H s Q q => by
  obtain ⟨ps, h1, s'⟩ := h F σ G H s
  exact he F σ _ H s' Q fun G' H' g => q _ H' (g.lends h1)
theorem lc_lendG {elt tg iter : Expr} {ifs : List Expr} {scope : Scope} {own : List (Str × Nat)} (i : Nat) (h : Lend X.K Γ i d) (hf : flatO o = true) (he : LcOk X (Γ.set i (.d d)) elt tg iter ifs scope own o) : LcOk X Γ elt tg iter ifs scope own o := by
  obtain ⟨wi, g, tt, te, h1, h2, h3, h4, h5, h6⟩ := he
  exact ⟨wi, g, tt, te, h1, h2, h3, h4, h5, ev_lendGO i h hf h6⟩
end
section
variable {X : Cx} {Γ : List B} {pos p : Pos} {n : Str} {lv : Nat} {A : Type} {enc : A → List AK} {pre : A → Prop} {flds : A → List (Str × D)} {e : Expr} {es : List Expr}
/-- as ed_makeJ, the answer told apart -/
theorem ed_makeK {z : D} (a : A) (hk : MkX X n lv (spJ X.K n enc pre flds)) (hr : Room (lv + 1) X.A) (hg : Gl X n) (ha : EA2 X Γ (e :: es) (enc a)) (hp : pre a) (hz : D.ins n (flds a) = z := by rfl)
    (hdb : (n == ("__debug__" : Str)) = false := by decide) (he : starEach (e :: es) X.env = (false, eval e X.env) :: starEach es X.env := by exact starEach_ns rfl) (hpl : (backTo pos (starEach es X.env)).any (·.1) = false := by exact plain_ok rfl) : ED X Γ (.Call (.Name n p) (e :: es) [] pos) z :=
  hz ▸ ed_makeJ a hk hr hg ha hp hdb he hpl
end
end Sd

namespace Sd
open PySem PySem.Spec PyProof.Rows L2
theorem runs_det {M : Model} {Γ : PySem.Ctx} {p : Pos} {t : Sem Fin} {fs : List Frame} {s s' : Shared} {e : End} (h : Runs M Γ p t fs s e s') : ∀ {e2 : End} {s2 : Shared}, Runs M Γ p t fs s e2 s2 → e = e2 ∧ s' = s2 := by
  induction h with
  | call h1 h2 i1 i2 =>
    intro e2 s2 k
    cases k with
    | call k1 k2 =>
      obtain ⟨a, b⟩ := i1 k1
      cases a
      subst b
      exact i2 k2
    | callSusp k1 =>
      obtain ⟨a, _⟩ := i1 k1
      cases a
  | callSusp h1 i1 =>
    intro e2 s2 k
    cases k with
    | call k1 k2 =>
      obtain ⟨a, _⟩ := i1 k1
      cases a
    | callSusp k1 =>
      obtain ⟨a, b⟩ := i1 k1
      cases a
      subst b
      exact ⟨rfl, rfl⟩
  | segRet h1 h2 i1 i2 =>
    intro e2 s2 k
    cases k with
    | segRet k1 k2 =>
      obtain ⟨a, b⟩ := i1 k1
      cases a
      subst b
      exact i2 k2
    | segSuspOut q k1 =>
      obtain ⟨a, _⟩ := i1 k1
      cases a
    | segSuspGen q k1 k2 k3 =>
      obtain ⟨a, _⟩ := i1 k1
      cases a
  | segGen h1 h2 i1 i2 =>
    intro e2 s2 k
    cases k with
    | segGen k1 k2 =>
      obtain ⟨a, b⟩ := i1 k1
      cases a
      subst b
      exact i2 k2
    | segSuspOut q k1 =>
      obtain ⟨a, _⟩ := i1 k1
      cases a
    | segSuspGen q k1 k2 k3 =>
      obtain ⟨a, _⟩ := i1 k1
      cases a
  | segSuspOut q h1 i1 =>
    intro e2 s2 k
    cases k with
    | segRet k1 k2 =>
      obtain ⟨a, _⟩ := i1 k1
      cases a
    | segGen k1 k2 =>
      obtain ⟨a, _⟩ := i1 k1
      cases a
    | segSuspOut q2 k1 =>
      obtain ⟨a, b⟩ := i1 k1
      cases a
      subst b
      exact ⟨rfl, rfl⟩
    | segSuspGen q2 k1 k2 k3 =>
      rw [q] at q2
      cases q2
  | segSuspGen q h1 h2 h3 i1 i3 =>
    intro e2 s2 k
    cases k with
    | segRet k1 k2 =>
      obtain ⟨a, _⟩ := i1 k1
      cases a
    | segGen k1 k2 =>
      obtain ⟨a, _⟩ := i1 k1
      cases a
    | segSuspOut q2 k1 =>
      rw [q] at q2
      cases q2
    | segSuspGen q2 k1 k2 k3 =>
      rw [q] at q2
      cases q2
      obtain ⟨a, b⟩ := i1 k1
      cases a
      subst b
      exact i3 k3
  | resumeFresh g h1 h2 h3 i1 i3 =>
    intro e2 s2 k
    cases k with
    | resumeFresh g2 k1 k2 k3 =>
      rw [g] at g2
      cases g2
      obtain ⟨rfl, rfl⟩ := i1 k1
      exact i3 k3
    | _ => simp_all
  | resumeSuspended g h1 h2 h3 i1 i3 =>
    intro e2 s2 k
    cases k with
    | resumeSuspended g2 k1 k2 k3 =>
      rw [g] at g2
      cases g2
      obtain ⟨rfl, rfl⟩ := i1 k1
      exact i3 k3
    | _ => simp_all
  | _ =>
    intro e2 s2 k
    cases k <;> first
      | exact ⟨rfl, rfl⟩
      | solve_by_elim
      | (simp_all; done)
      | (simp_all; solve_by_elim)
      | (simp_all; subst_vars; solve_by_elim)
theorem returns_det {M : Model} {Γ : PySem.Ctx} {p : Pos} {s s1 s2 : Shared} {r1 r2 : Result} (h : Returns M Γ p s r1 s1) (k : Returns M Γ p s r2 s2) : r1 = r2 ∧ s1 = s2 := by
  obtain ⟨a, b⟩ := runs_det h k
  cases a
  exact ⟨rfl, b⟩
theorem wakes_det {M : Model} {Γ : PySem.Ctx} {p : Pos} {g : Nat} {r : Resume} {s s1 s2 : Shared} {x1 x2 : GenResult} (h : Wakes M Γ p g r s x1 s1) (k : Wakes M Γ p g r s x2 s2) : x1 = x2 ∧ s1 = s2 := by
  unfold Wakes at h k
  cases hg : s.gens[g]? with
  | none =>
    simp only [hg] at h
  | some st =>
    simp only [hg] at h k
    have run : ∀ {Γ' : PySem.Ctx} {p' : Pos} {t : Sem PySem.Fin} {fs : List Frame} {u : Shared}, (∃ e v, Runs M Γ' p' t fs u e v ∧ e.quiet = true ∧ x1 = e.result ∧ s1 = v.setGen g e.genState) → (∃ e v, Runs M Γ' p' t fs u e v ∧ e.quiet = true ∧ x2 = e.result ∧ s2 = v.setGen g e.genState) → x1 = x2 ∧ s1 = s2 := by
      rintro Γ' p' t fs u ⟨e, v, h1, _, rfl, rfl⟩ ⟨e', v', k1, _, rfl, rfl⟩
      obtain ⟨rfl, rfl⟩ := runs_det h1 k1
      exact ⟨rfl, rfl⟩
    cases st with
    | fresh c =>
      cases r with
      | send v =>
        cases v with
        | none => exact run h k
        | _ => exact ⟨h.1.trans k.1.symm, h.2.trans k.2.symm⟩
      | throw x => exact ⟨h.1.trans k.1.symm, h.2.trans k.2.symm⟩
    | suspended => exact run h k
    | running => exact ⟨h.1.trans k.1.symm, h.2.trans k.2.symm⟩
    | finished => exact ⟨h.1.trans k.1.symm, h.2.trans k.2.symm⟩
theorem wp_both {α : Type} {M : Model} {Γ : PySem.Ctx} {Q Q2 : α → Pos → Shared → Prop} {E E2 : Value → Pos → Shared → Prop} (t : Sem α) : ∀ {p : Pos} {s : Shared}, Sem.wp M Γ t Q E p s → Sem.wp M Γ t Q2 E2 p s → Sem.wp M Γ t (fun a p s => Q a p s ∧ Q2 a p s) (fun e p s => E e p s ∧ E2 e p s) p s := by
  induction t with
  | call c h g l k ih =>
    intro p s h1 h2
    rw [Sem.wp_call] at h1 h2 ⊢
    obtain ⟨r, s1, a, b⟩ := h1
    obtain ⟨r', s1', a', b'⟩ := h2
    obtain ⟨rfl, rfl⟩ := returns_det a a'
    exact ⟨r, s1, a, ih _ b b'⟩
  | resume g r l k ih =>
    intro p s h1 h2
    rw [Sem.wp_resume] at h1 h2 ⊢
    obtain ⟨x, s1, a, b⟩ := h1
    obtain ⟨x', s1', a', b'⟩ := h2
    obtain ⟨rfl, rfl⟩ := wakes_det a a'
    exact ⟨x, s1, a, ih _ b b'⟩
  | _ =>
    intro p s h1 h2
    simp only [Sem.wp] at h1 h2 ⊢ <;> first
      | exact ⟨h1, h2⟩
      | exact h1.elim
      | (rename_i ih; exact ih _ h1 h2)
      | (rename_i ih; exact ⟨h1.1, ih _ h1.2 h2.2⟩)
      | (rename_i ih; obtain ⟨o, a, b⟩ := h1; obtain ⟨o', a', b'⟩ := h2; rw [a] at a'; cases a'; exact ⟨o, a, ih _ b b'⟩)
theorem wpAny_both {α : Type} {M : Model} {A : Around} {t : Sem α} {Q Q2 : α → Shared → Prop} {E E2 : Value → Shared → Prop} {s : Shared} (h : wpAny M A t Q E s) (k : wpAny M A t Q2 E2 s) : wpAny M A t (fun a s => Q a s ∧ Q2 a s) (fun e s => E e s ∧ E2 e s) s :=
  fun Γ p i => wp_both t (h Γ p i) (k Γ p i)
end Sd

namespace Sd
open PySem PySem.Spec PyProof.Rows L2
/-- a try whose body surely raises: what stands behind else is never looked at -/
theorem try_orelse {M : Model} {A : Around} {env : Env} {body orelse : List Stmt} {h0 : ExceptHandler} {hs : List ExceptHandler} {pos : Pos} {Q : Flow → Shared → Prop} {E : Value → Shared → Prop} {s : Shared} (h : wpAny M A (exec (.Try body (h0 :: hs) [] [] pos) env) Q E s)
    (k : wpAny M A (execs body env) (fun f _ => f ≠ .next) (fun _ _ => True) s) : wpAny M A (exec (.Try body (h0 :: hs) orelse [] pos) env) Q E s := by
  intro Γ p i
  have h1 := h Γ p i
  rw [arm_exec_Try] at h1 ⊢
  unfold tryStmt at h1 ⊢
  simp only [List.isEmpty_nil, if_true, Sem.wp_bind', Sem.wp_attempt] at h1 ⊢
  refine (show Sem.wp M Γ (execs body env) _ _ _ s from ?_)
  have h2 := wp_both _ (show Sem.wp M Γ (execs body env) _ _ _ s from h1) (k Γ _ i)
  refine Sem.wp_mono M Γ _ (fun f p' s' z => ?_) (fun e p' s' z => ?_) _ _ h2
  · obtain ⟨z1, z2⟩ := z
    cases f with
    | next => exact absurd rfl z2
    | _ => exact z1
  · exact z.1

/-- what a statement is by the model itself -/
structure WStm (X : Cx) (st : Stmt) (D : Ends) (σ : L2.St) (H : Hp) : Prop where
  run : ∀ (pins : List (Addr × Obj)) (s : Shared), Inv X pins σ H s → wpAny (model X.prog X.w) X.A (exec st X.env) (SP X pins D) X.xe s
theorem ps_stm {X : Cx} {st : Stmt} : PS X st (WStm X st) := ⟨fun pins s _ _ _ I h => h.run pins s I⟩
section
variable {X : Cx} {E : XK} {Γ : List B} {S T R : Type} {Γs : S → List B} {Γb : T → List B} {f : R → Res} {rest orelse : List Stmt} {pos np pos' bpos : Pos} {lv : Nat} {N : List Str} {sc : Scope} {hx y n : Str} {py : Pos} {e : Expr} {suite : List Stmt} {b₀ : Stmt} {m : Str → Option Bool}
/-- try: one statement; except X as n: suite; else: orelse; the statement by what it does in any surroundings -/
theorem try_nE {S' τ : Type} {Γj : S' → List B} (j : Nat) {st : Stmt} {Γ1 : τ → List B} {r : Out τ} {k1 : τ → Co S' T R} {k2 : Exn → Co S' T R} (hM : XCm X E) (hX : XOk lv N sc X) (hnj : N[j]? = some n) (hlj : sc.names.lookup n = some .local) (hc : ExH X.K X.mg hx m) (hg : Gl X hx)
    (hu : ∀ s, (Γj s)[j]? = some .un) (hub : ∀ b, (Γb b)[j]? = some .un)
    (hb : ∀ (W : WX) pn xe (D : Ends) F G0 σ G H, PsAt (X.tr pn xe) (L2.WE W) → Stt X.K F Γ σ G H → Grow G0 F G H → (match r with
      | .ok v => ∀ σ' G' H', Ex G G' → Stt X.K F (Γ1 v) σ' G' H' → Grow G0 F G' H' → D.nx σ' H'
      | .err x => ∀ cls d G1 H1, Grow G H G1 H1 → ExIs X.K G1 H1 x cls d → W cls d σ H1
      | .stk => False) → wS (X.tr pn xe) [st] D σ H)
    (h1 : ∀ v, BC X E (Γ1 v) orelse Γj Γb f (k1 v))
    (h2 : ∀ x a oe pn d, HEx (X.suite a ((a, oe) :: pn)) a x d → XOk lv N sc (X.suite a ((a, oe) :: pn)) → BC (X.suite a ((a, oe) :: pn)) E0 (Γ.set j (.exc a d x.fs)) (b₀ :: suite) Γj Γb f (k2 x))
    (hf : NoX f) (hdb : (hx == ("__debug__" : Str)) = false) (F G0 : Hp) (σ : L2.St) (G H : Hp) (D : Ends) (s : Stt X.K F Γ σ G H) (gr : Grow G0 F G H) (post : PostC X.K F G0 G E D Γj Γb (Co.ctl f (tryO r m k1 fun x => (k2 x).ne))) :
    WStm X (.Try [st] [.ExceptHandler (some (.Name hx np)) (some n) (b₀ :: suite) pos'] orelse [] pos) D σ H := by
  obtain ⟨c, h3, h4⟩ := hc.ex
  refine ⟨fun pins sh I => ?_⟩
  have ok := I.ok
  cases r with
  | stk => exact (show False from post).elim
  | ok v =>
    refine wpAny_Try_except ?_
    have w := hb (fun cls d _ H => E0 cls d H) (X.pn ++ pins) (fun _ _ => False) { nx := wS X orelse D, bk := fun _ _ => False, ct := fun _ _ => False, rt := fun _ _ => False } F G0 σ G H (ps0 _) s gr
      (fun σ' G' H' ex st' gr' => h1 v F G0 σ' G' H' D st' gr' (PostC.up (show PostC X.K F G0 G E D Γj Γb (Co.ctl f (k1 v)) from post) ex))
    refine wpAny_mono (WS.run w [] sh (I.toTry _)) (fun fl s1 q => ?_) fun _ _ z => z.elim
    cases fl with
    | next =>
      obtain ⟨σ', H', J, q⟩ := q
      exact WS.run q pins s1 (J.ofTry ok)
    | brk =>
      obtain ⟨_, _, _, q⟩ := q
      exact q.elim
    | cont =>
      obtain ⟨_, _, _, q⟩ := q
      exact q.elim
    | ret u =>
      obtain ⟨_, _, _, _, _, q⟩ := q
      exact q.elim
  | err x =>
    refine try_orelse ?_ ?_
    · refine PS.run (ps_try_as (i := j) (c := c) (ts := fun a cls d D σ H => ∀ oe pn, Zc cls d oe → (∃ vs, oe.data = .fields vs) → wS (X.suite a ((a, oe) :: pn)) (b₀ :: suite) D σ H) (tb := fun W D σ H => ∀ pn xe, Takes (X.tr pn xe) W → wS (X.tr pn xe) [st] D σ H) hX.stk hX.frm hX.nd (hX.nm hnj) (hX.lk hlj) ⟨hg, hdb, .inl h3⟩ hM.takes
        (fun W pn xe tk _ => ⟨fun pins sh σ H D I h => (h pn xe tk).run pins sh I⟩) (fun a oe cls d pn hz hd => ⟨fun pins sh σ H D I h => (h oe pn hz hd).run pins sh I⟩)) pins sh σ H D I fun pn xe tk => ?_
      exact hb _ pn xe D F G0 σ G H (fun σ => passAt tk σ) s gr fun cls d G1 H1 g1 hi => try_err hf hX hM hu hub h4 h2 s gr post cls d G1 H1 g1 hi
    · have w := hb (fun _ _ _ _ => True) (X.pn ++ pins) (fun _ _ => True) { nx := fun _ _ => False, bk := fun _ _ => True, ct := fun _ _ => True, rt := fun _ _ => True } F G0 σ G H (fun _ _ _ _ _ _ _ _ => trivial) s gr fun _ _ _ _ _ _ => trivial
      refine wpAny_mono (WS.run w [] sh (I.toTry _)) (fun fl s1 q z => ?_) fun _ _ z => z
      subst z
      obtain ⟨_, _, _, q⟩ := q
      exact q.elim
theorem c_tryEne {S' τ : Type} {Γj : S' → List B} (j : Nat) {res : τ → Res} {r : Out τ} {k1 : τ → Co S' T R} {k2 : Exn → Co S' T R} {kr : S' → Co S T R} (hM : XCm X E) (hX : XOk lv N sc X) (hnj : N[j]? = some n) (hlj : sc.names.lookup n = some .local) (hc : ExH X.K X.mg hx m) (hg : Gl X hx)
    (hu : ∀ s, (Γj s)[j]? = some .un) (hub : ∀ b, (Γb b)[j]? = some .un)
    (he : ∀ (W : WX) pn xe, PsAt (X.tr pn xe) (L2.WE W) → ERs (X.tr pn xe) (L2.WE W) Γ e (rsOf res r)) (h1 : ∀ v, BC X E Γ orelse Γj Γb f (k1 v))
    (h2 : ∀ x a oe pn d, HEx (X.suite a ((a, oe) :: pn)) a x d → XOk lv N sc (X.suite a ((a, oe) :: pn)) → BC (X.suite a ((a, oe) :: pn)) E0 (Γ.set j (.exc a d x.fs)) (b₀ :: suite) Γj Γb f (k2 x)) (hr : ∀ s', BC X E (Γj s') rest Γs Γb f (kr s'))
    (hf : NoX f := by exact fun _ _ _ _ _ _ _ h => h) (hres : ∀ v, (∃ z, res v = .v z) ∨ ∃ z, res v = .o z := by exact fun _ => by first | exact .inl ⟨_, rfl⟩ | exact .inr ⟨_, rfl⟩)
    (hs : ∀ pn xe, swapsWith e none bpos.line (X.tr pn xe).env = pure false := by exact fun _ _ => sw_ns rfl) (hdb : (hx == ("__debug__" : Str)) = false := by decide) :
    BC X E Γ (.Try [.Expr e bpos] [.ExceptHandler (some (.Name hx np)) (some n) (b₀ :: suite) pos'] orelse [] pos :: rest) Γs Γb f ((tryO r m k1 fun x => (k2 x).ne).bind kr) := by
  show BK _ _ _ _ _ _ (Co.ctl f ((tryO r m k1 fun x => (k2 x).ne).bind kr))
  rw [ctl_bind]
  refine b_seq (Γj := Γj) (fun F G0 σ G H D s gr post => ⟨_, ps_stm, try_nE (Γ1 := fun _ => Γ) (r := r) j hM hX hnj hlj hc hg hu hub (fun W pn xe D F G0 σ G H tk s gr q => ?_) h1 h2 hf hdb F G0 σ G H D s gr post⟩) fun s' _ => hr s'
  refine w_cons (ps_expr pe_w (hs pn xe)) (he _ pn xe tk F σ G H s _ ?_)
  cases r with
  | stk => exact q.elim
  | ok v =>
    show PostR _ _ _ _ _ (res v)
    rcases hres v with ⟨z, e⟩ | ⟨z, e⟩
    · rw [e]
      exact fun w G1 H1 g1 i1 => w_nil (q _ G1 H1 g1.g (s.grow g1) (gr.trans g1))
    · rw [e]
      exact fun p u G1 H1 g1 _ _ _ _ => w_nil (q _ G1 H1 g1.g (s.grow g1) (gr.trans g1))
  | err x => exact q
theorem c_tryAne {S' τ : Type} {Γj : S' → List B} (i j : Nat) (enc : τ → D) {r : Out τ} {k1 : τ → Co S' T R} {k2 : Exn → Co S' T R} {kr : S' → Co S T R} (hM : XCm X E) (hX : XOk lv N sc X) (hn : N[i]? = some y) (hl : Loc sc y) (hnj : N[j]? = some n) (hlj : sc.names.lookup n = some .local) (hc : ExH X.K X.mg hx m) (hg : Gl X hx)
    (hu : ∀ s, (Γj s)[j]? = some .un) (hub : ∀ b, (Γb b)[j]? = some .un)
    (he : ∀ (W : WX) pn xe, PsAt (X.tr pn xe) (L2.WE W) → ERs (X.tr pn xe) (L2.WE W) Γ e (rsOf (fun v => .v (enc v)) r)) (h1 : ∀ v, BC X E (Γ.set i (.d (enc v))) orelse Γj Γb f (k1 v))
    (h2 : ∀ x a oe pn d, HEx (X.suite a ((a, oe) :: pn)) a x d → XOk lv N sc (X.suite a ((a, oe) :: pn)) → BC (X.suite a ((a, oe) :: pn)) E0 (Γ.set j (.exc a d x.fs)) (b₀ :: suite) Γj Γb f (k2 x)) (hr : ∀ s', BC X E (Γj s') rest Γs Γb f (kr s'))
    (hf : NoX f := by exact fun _ _ _ _ _ _ _ h => h)
    (hs : ∀ pn xe, swapsWith e (some (.Name y py)) bpos.line (X.tr pn xe).env = pure false := by exact fun _ _ => sw_ns rfl) (hdb : (hx == ("__debug__" : Str)) = false := by decide) :
    BC X E Γ (.Try [.Assign [.Name y py] e bpos] [.ExceptHandler (some (.Name hx np)) (some n) (b₀ :: suite) pos'] orelse [] pos :: rest) Γs Γb f ((tryO r m k1 fun x => (k2 x).ne).bind kr) := by
  show BK _ _ _ _ _ _ (Co.ctl f ((tryO r m k1 fun x => (k2 x).ne).bind kr))
  rw [ctl_bind]
  refine b_seq (Γj := Γj) (fun F G0 σ G H D s gr post => ⟨_, ps_stm, try_nE (Γ1 := fun v => Γ.set i (.d (enc v))) (r := r) j hM hX hnj hlj hc hg hu hub (fun W pn xe D F G0 σ G H tk s gr q => ?_) h1 h2 hf hdb F G0 σ G H D s gr post⟩) fun s' _ => hr s'
  have hX' := hX.tr pn xe
  refine w_cons (ps_set hX'.nd (hX'.nm hn) (hX'.lc hl) pe_w (hs pn xe) (.inl (hX'.fn y))) (he _ pn xe tk F σ G H s _ ?_)
  cases r with
  | stk => exact q.elim
  | ok v => exact fun w G1 H1 g1 i1 => w_nil (q _ G1 H1 g1.g ((s.grow g1).set i i1) (gr.trans g1))
  | err x => exact q
end
end Sd

namespace Sd
open PySem PySem.Spec PyProof.Rows L2
/-! ### a loop over what may raise -/
section
variable {X : Cx} {E : XK} {Γ : List B} {S T R : Type} {Γs : S → List B} {Γb : T → List B} {f : R → Res} {rest : List Stmt} {pos p cpos : Pos} {lv : Nat} {N : List Str} {sc : Scope}
theorem c_forR {S' Y τ : Type} {Γl : S' → List B} {kr : τ → S' → Co S T R} {tg iter : Expr} {body : List Stmt} {g : TG} {js : List Nat} {res : τ → Res} {r : Out τ} (zs : τ → List Y) (encY : Y → D) (step : S' → Y → Co S' S' R) (s0 : S') (Γy : S' → Y → List B) (hM : XCm X E) (hX : XOk lv N sc X)
    (h0 : Wk Γ (Γl s0)) (he : ER X E Γ iter (rsOf res r)) (hres : ∀ v, res v = .v (.lst ((zs v).map encY)) ∨ res v = .o (.lst ((zs v).map encY))) (hg : PG X tg g) (htg : ∀ s y, TgD X.K g js (Γl s) (encY y) (Γy s y))
    (hb : ∀ s y, BC X E (Γy s y) body Γl Γl f (step s y)) (hr : ∀ v s, BC X E (Γl s) rest Γs Γb f (kr v s)) (hs : ∀ x, foldedSetIterable iter X.env x = pure x := by exact fs_ns rfl) :
    BC X E Γ (.For tg iter body [] pos :: rest) Γs Γb f (bndO r fun v => (coLoop step s0 (zs v)).bind (kr v)) := by
  cases r with
  | ok v =>
    have hd : ED X Γ iter (.lst ((zs v).map encY)) := by
      have he : ER X E Γ iter (res v) := he
      rcases hres v with e | e
      · rw [e] at he
        exact fun F σ G H s Q q => he F σ G H s Q q
      · rw [e] at he
        exact EvO.frz fun F σ G H s Q q => he F σ G H s Q q
    exact c_for encY step s0 (zs v) Γy hM hX h0 (it_lst hd) hg htg hb (hr v) hs
  | err x =>
    intro F G0 σ G H D s gr post
    exact w_cons (ps_for (tg := tg) hM.pown hM.calm (pi_list pe_w) hg (pss_w (sts := body)) hs) (he F σ G H s _ (PostR.grow gr (show PostR X.K F G0 E D.rt (.x x) from post)))
  | stk => exact c_stk
/-! ### while -/
/-- the number of turns that a mirror of a while goes at most -/
def WF : Nat := 100000
noncomputable def coWh {S' T R : Type} (p : S' → Prop) (b : S' → Bool) (step : S' → Co S' S' R) : Nat → S' → Co S' T R
  | 0, _ => .ret .stk
  | n + 1, s => chk (p s) (if b s = true then (match step s with
    | .go s' => coWh p b step n s'
    | .brk s' => .go s'
    | .ret r => .ret r) else .go s)
theorem coWh_succ {S' T R : Type} (p : S' → Prop) (b : S' → Bool) (step : S' → Co S' S' R) (n : Nat) (s : S') : (coWh p b step (n + 1) s : Co S' T R) = chk (p s) (if b s = true then (match step s with
    | .go s' => coWh p b step n s'
    | .brk s' => .go s'
    | .ret r => .ret r) else .go s) := by
  rw [coWh]
theorem coWh_zero {S' T R : Type} (p : S' → Prop) (b : S' → Bool) (step : S' → Co S' S' R) (s : S') : (coWh p b step 0 s : Co S' T R) = .ret .stk := by
  rw [coWh]
theorem c_while {S' : Type} {Γl : S' → List B} {kr : S' → Co S T R} {c : Expr} {body : List Stmt} (p : S' → Prop) (b : S' → Bool) (step : S' → Co S' S' R) (s0 : S') (hM : XCm X E) (h0 : Wk Γ (Γl s0)) (hc : ∀ s, p s → ET X (Γl s) c (b s)) (hb : ∀ s, p s → BC X E (Γl s) body Γl Γl f (step s)) (hr : ∀ s, BC X E (Γl s) rest Γs Γb f (kr s)) :
    BC X E Γ (.While c body [] pos :: rest) Γs Γb f ((coWh p b step WF s0).bind kr) := by
  show BK _ _ _ _ _ _ (Co.ctl f ((coWh p b step WF s0).bind kr))
  rw [ctl_bind]
  refine b_seq (Γj := Γl) (fun F G0 σ G H D s gr post => ⟨_, ps_while hM.pown pt_w pss_w, ?_⟩) fun s' _ => hr s'
  refine ⟨fun n σ' H' => ∃ G' s', Ex G G' ∧ Stt X.K F (Γl s') σ' G' H' ∧ Grow G0 F G' H' ∧ PostC X.K F G0 G' E D Γl Γb (Co.ctl f (coWh p b step n s')), ⟨WF, G, s0, Evl.Ex.refl _, s.wk h0, gr, post⟩, ?_⟩
  rintro n σ1 H1 ⟨G1, s1, e1, st1, gr1, po⟩
  cases n with
  | zero =>
    rw [coWh_zero] at po
    exact (show False from po).elim
  | succ n =>
    rw [coWh_succ] at po
    by_cases hp : p s1
    · rw [chk_pos hp] at po
      refine hc s1 hp F σ1 G1 H1 st1 _ fun G2 H2 g2 => ?_
      cases hbs : b s1 with
      | true =>
        rw [hbs, if_pos rfl] at po
        rw [if_pos rfl]
        refine ⟨fun σ' H' => ∃ G' s', Ex G G' ∧ Stt X.K F (Γl s') σ' G' H' ∧ Grow G0 F G' H' ∧ PostC X.K F G0 G' E D Γl Γb (Co.ctl f (coWh p b step n s')), fun σ' H' h => ⟨n, Nat.lt_succ_self n, h⟩, ?_⟩
        refine hb s1 hp F G0 σ1 G2 H2 _ (st1.grow g2) (gr1.trans g2) ?_
        have po2 := PostC.up po g2.g
        cases hst : step s1 with
        | go s' =>
          rw [hst] at po2
          exact fun σ' G' H' ex st' gr' => ⟨G', s', (e1.trans g2.g).trans ex, st', gr', PostC.up po2 ex⟩
        | brk s' =>
          rw [hst] at po2
          exact fun σ' G' H' ex st' gr' => po2 σ' G' H' ex st' gr'
        | ret r =>
          rw [hst] at po2
          exact po2
      | false =>
        rw [hbs, if_neg Bool.false_ne_true] at po
        rw [if_neg Bool.false_ne_true]
        exact po σ1 G2 H2 g2.g (st1.grow g2) (gr1.trans g2)
    · rw [chk_neg hp] at po
      exact (show False from po).elim
/-! ### sorted(dict) -/
theorem isKV_keys {K : PySem.W.Frag} {G : Hp} {τ : Type} {enc : τ → D} : ∀ {vs : List (Key × V)} {ks : List (List Nat × τ)}, IsKV K G vs (encKs enc ks) → vs.map (·.1) = (ks.map fun z => Sd.S z.1).map Sum.inr ∧ ∀ z ∈ ks, StrOk z.1
  | _, [], h => by
    cases h
    exact ⟨rfl, fun _ hz => nomatch hz⟩
  | _, z :: ks, h => by
    rw [encKs_cons] at h
    cases h with
    | @cons _ v vs _ _ h0 h1 h2 =>
      obtain ⟨e1, e2⟩ := isKV_keys h2
      refine ⟨by rw [List.map_cons, e1]; rfl, fun w hw => ?_⟩
      rcases List.mem_cons.mp hw with e | hw
      · rw [e]
        obtain ⟨l, e3, ok⟩ := h0
        rw [S_inj.mp e3]
        exact ok
      · exact e2 w hw
theorem c_retSD {τ : Type} {e : Expr} (enc : τ → D) {r : Out (List (List Nat × τ))} {f : List (List Nat) → Res} (hM : XCm X E) (hg : Gl X "sorted") (hm : X.mg "sorted" = none) (he : ER X E Γ e (rsOf (fun d => .o (.dct (encKs enc d))) r)) (hf : ∀ x, f x = .o (.lst (x.map D.str)))
    (hst : starEach [e] X.env = (false, eval e X.env) :: starEach [] X.env := by exact starEach_ns rfl) (hpl : (backTo cpos (starEach [] X.env)).any (·.1) = false := by exact plain_ok rfl) :
    BC X E Γ (.Return (some (.Call (.Name "sorted" p) [e] [] cpos)) pos :: rest) Γs Γb f (bndO r fun d => chk (d.length < 64) (.ret (.ok (sortT (d.map (·.1)))))) := fun F G0 σ G H D s gr post => by
  refine w_cons (ps_ret (pe_callB (call_sortedD hM.calm) hg hm (by decide +kernel) (pa_cons pe_w pa_nil hst) (by decide) (by decide) hst hpl)) ?_
  refine he F σ G H s _ ?_
  cases r with
  | stk => exact (show False from post).elim
  | err x => exact PostR.grow gr (show PostR X.K F G0 E D.rt (.x x) from post)
  | ok d =>
    have po : PostC X.K F G0 G E D Γs Γb (Co.ctl f (chk (d.length < 64) (.ret (.ok (sortT (d.map (·.1))))))) := post
    by_cases hl : d.length < 64
    · rw [chk_pos hl] at po
      have po : PostR X.K F G0 E D.rt (f (sortT (d.map (·.1)))) := po
      rw [hf] at po
      intro q u G1 H1 g1 h1 h2 h3 h4
      obtain ⟨vs, rfl, iv⟩ := h4.dct
      obtain ⟨e1, e2⟩ := isKV_keys iv
      refine ⟨q, vs, d.map fun z => Sd.S z.1, rfl, .inl h1, e1, by rw [List.length_map]; exact hl, fun ys w hp hs hw => ?_⟩
      have hp' : ys.Perm ((d.map (·.1)).map Sd.S) := by rw [List.map_map]; exact hp
      have e := sorted_is hp' hs
      subst e
      refine po w _ G1 _ ((gr.trans g1).trans (Grow.lay g1.s hw)) upd_same (Evl.fresh_back g1.s hw) (Evl.fresh_back ((gr.trans g1).h) hw) ?_
      show IsAll _ _ (List.map V.str (List.map Sd.S (sortT (d.map (·.1))))) _
      rw [List.map_map]
      refine IsAll.ofStrs _ fun l hl => ?_
      obtain ⟨z, hz, rfl⟩ := List.mem_map.mp (sortT_mem.mp hl)
      exact e2 z hz
    · rw [chk_neg hl] at po
      exact (show False from po).elim
end
/-! ### defs as values -/
structure FnV (K : PySem.W.Frag) (mg : Str → Option Value) (n : Str) : Prop where
  ex : ∃ f, PySem.W.nsIn K mainGlobals n = some (some (.ref f)) ∧ mg n = some (.ref f)
section
variable {X : Cx} {E : L2.St → XK} {Γ : List B} {pos p : Pos} {x n n2 : Str} {lv : Nat} {A : Type} {enc : A → List AK} {pre : A → Prop} {res : A → Res} {e : Expr} {es : List Expr}
theorem ed_fn (hg : Gl X n) (hf : FnV X.K X.mg n) (hd : (n == ("__debug__" : Str)) = false := by decide) : ED X Γ (.Name n pos) (.fn n) := by
  obtain ⟨a, h1, h2⟩ := hf.ex
  exact ed_of (pe_glob (v := .ref a) hg h2 rfl hd) fun F σ G H s Q q => q _ G H (.refl s.sub) (.fn h1)
/-- y(e, ..), y a local that holds a def -/
theorem es_callV (i : Nat) (a : A) (tk : PsAt X E) (hk : KnX X n lv (spG X.K enc pre res)) (hv : FnV X.K X.mg n) (hr : Room lv X.A) (hN : X.N[i]? = some x) (hs : Vis X.env.scope x) (hΓ : Γ[i]? = some (.d (.fn n))) (ha : EA2 X Γ (e :: es) (enc a)) (hp : pre a)
    (hdb : (x == ("__debug__" : Str)) = false := by decide) (hcd : (x == ("__classdict__" : Str)) = false := by decide) (he : starEach (e :: es) X.env = (false, eval e X.env) :: starEach es X.env := by exact starEach_ns rfl) (hpl : (backTo pos (starEach es X.env)).any (·.1) = false := by exact plain_ok rfl) : ERs X E Γ (.Call (.Name x p) (e :: es) [] pos) (res a) := by
  obtain ⟨f, fd, ps, h1, h2, h3, h4⟩ := hk.ex
  obtain ⟨f', g1, g2⟩ := hv.ex
  have ef : f' = f := by
    rw [h2] at g2
    cases g2
    rfl
  subst ef
  intro F σ G H s Q q
  refine ⟨fun pins sh I => ?_⟩
  obtain ⟨v, hσ, hi⟩ := s.dat i _ hΓ
  cases hi with
  | @fn b _ hb =>
    have eb : b = f' := by
      rw [g1] at hb
      cases hb
      rfl
    subst eb
    refine wpAny_Call_Name_kw (thn ((pe_var (pos := p) hN hs hdb hcd).run pins sh σ H (fun v H1 => v = .ref b ∧ H1 = H) I ⟨_, hσ, rfl, rfl⟩) fun u s1 ⟨v, H1, I1, r1, q1⟩ => ?_)
    obtain ⟨rfl, rfl⟩ := q1
    cases r1
    refine PySem.W.callWith_K (h₀ := X.base) I.ok.mod.kin h3 (thn (pa_w.run pos pins s1 σ _ (fun vs H2 => spG X.K enc pre res vs H2 Q (E σ)) I1 (ha F σ G _ s _ fun vs G2 H2 g2 i2 => ⟨a, G2, g2.s, i2, hp, PostR.grow g2 q⟩)) fun us s2 ⟨vs, H2, I2, r2, q2⟩ => ⟨I2.kIn, ?_⟩) he hpl
    exact run_fnS h1 hr h4 (tk σ) I2 r2 q2
/-- .. one of two -/
theorem es_callV2 {b : Bool} {τ : Type} {F : τ → Res} {r1 r2 : Out τ} (h1 : b = true → ERs X E Γ e (rsOf F r1)) (h2 : b = false → ERs X E Γ e (rsOf F r2)) : ERs X E Γ e (rsOf F (if b = true then r1 else r2)) := by
  cases b with
  | true => exact h1 rfl
  | false => exact h2 rfl
end
end Sd

namespace Sd
open PySem PySem.Spec PyProof.Rows L2
/-! ### a list the other way round: xs[::-1] -/
def tBack (K : PySem.W.Frag) (te ts : TE) : TE := fun σ H Q => te σ H fun x H1 => ts σ H1 fun k H2 => ∃ a xs, x = .ref a ∧ k = .int (-1) ∧ SqL K H2 a xs ∧ ∀ p, H2 p = none → Q (.ref p) (upd H2 p (.lst xs.reverse))
section
variable {X : Cx} {E : XK} {Γ : List B} {e st : Expr} {pos p2 : Pos} {te ts : TE}
theorem back_step {pr : Program} {wd : World} {Ar : Around} {Er : Value → Shared → Prop} {z : Shared} {en : Env} {b0 k0 : Expr} {q0 q1 : Pos} {T n0 : String} {Qv : Value → Shared → Prop} (hg : typeLookup (.type T) "__getitem__" = pure (some (.builtin n0)))
    (h : wpAny (model pr wd) Ar (eval b0 en) (fun ov y => wpAny (model pr wd) Ar (eval (.Slice none none (some k0) q0) en) (fun iv y2 => y2.TypeIs ov T ∧ wpAny (model pr wd) Ar (getItem ov iv) Qv Er y2) Er y) Er z) : wpAny (model pr wd) Ar (eval (.Subscript b0 (.Slice none none (some k0) q0) q1) en) Qv Er z := by
  rw [eval_Subscript]
  refine wpAny_bind (wpAny_mono h (fun ov y hy => wpAny_bind (wpAny_holding (wpAny_mono hy (fun iv y2 hy2 => wpAny_bind (wpAny_standAt ?_)) fun _ _ w => w))) fun _ _ w => w)
  have last : wpAny (model pr wd) Ar (operate [ov, iv] (getItem ov iv)) (fun rv y3 => wpAny (model pr wd) Ar (letTemporaryGo b0 ov rv >>= fun _ => pure rv) Qv Er y3) Er y2 := wpAny_operating (wpAny_mono hy2.2 (fun rv y3 hy3 => wpAny_bind (wpAny_letTemporaryGo (wpAny_pure hy3))) fun _ _ w => w)
  first
    | (refine wpAny_bind ?_
       rw [getitemInPython_of_ne hy2.1.not_modules]
       refine wpAny_bind (wpAny_specialOf hy2.1 hg ?_)
       first
         | exact wpAny_pure (wpAny_bind last)
         | exact wpAny_bind (wpAny_pure (wpAny_bind last))
         | exact wpAny_bind last)
    | (refine wpAny_bind (wpAny_specialOf hy2.1 hg ?_)
       first
         | exact wpAny_bind (wpAny_pure (wpAny_bind last))
         | exact wpAny_bind last)
theorem pe_back (he : PE X e te) (hs : PE X st ts) : PE X (.Subscript e (.Slice none none (some st) p2) pos) (tBack X.K te ts) := by
  refine ⟨fun pins s σ H Q I h => back_step slot_list_getitem.lookup (thn (he.run pins s σ H _ I h) fun v s1 ⟨x, H1, I1, r1, q1⟩ => wpAny_Slice (wpAny_pure (wpAny_pure ?_)))⟩
  refine thn (hs.run pins s1 σ H1 _ I1 q1) fun u s2 ⟨k, H2, I2, r2, a, xs, ex, ek, hx, q2⟩ => ?_
  subst ex ek
  cases r1
  obtain ⟨tk, rfl⟩ := r2
  obtain ⟨its, rv, hl, hz⟩ := I2.list hx
  have J : Inv X pins σ H2 { s2 with heap := s2.heap.push { cls := .type "slice", data := .fields #[Value.none, Value.none, Value.int (-1) tk] } } := I2.kept (t' := s2.toks) fun b o z => Heap.get?_push_of_some _ z
  obtain ⟨its', rv', hl', hz'⟩ := J.list hx
  refine ⟨hl'.isList.typeIs, wpAny_getItem_list_slice hl'.isList (Heap.IsSliceOf.new ..) .none .none (.int _ _) (by decide) ?_ (by rw [List.size_toArray, ← rv'.length]; exact hz')⟩
  rw [PySem.W.krv_pick]
  refine ⟨.ref _, _, J.laid (t' := s2.toks) (o := .lst xs.reverse) (fun b o z => Heap.get?_push_of_some _ z) (Nat.le_refl _) ?_, rfl, q2 _ (J.hok.fresh (Nat.le_refl _))⟩
  exact ⟨by rw [List.length_reverse]; exact hz', _, 0, rv'.reverse, Heap.get?_push_size _ rfl⟩
theorem eo_back {τ : Type} {enc : τ → D} {xs : List τ} (ha : EL X Γ e (xs.map enc)) (hs : ED X Γ st (.int (-1))) : EO X Γ (.Subscript e (.Slice none none (some st) p2) pos) (.lst (xs.reverse.map enc)) :=
  eo_of (pe_back pe_w pe_w) fun F σ G H s Q q => ha F σ G H s _ fun p vs G1 H1 g1 h1 i1 => hs F σ G1 H1 (s.grow g1) _ fun v G2 H2 g2 i2 => by
    cases i2
    refine ⟨p, vs, rfl, rfl, .inl (.inl (g2.h _ _ h1)), fun l hl => q l _ G2 _ ((g1.trans g2).trans (Grow.lay g2.s hl)) upd_same (Evl.fresh_back g2.s hl) (Evl.fresh_back ((g1.trans g2).h) hl) ?_⟩
    show IsAll _ _ vs.reverse _
    rw [List.map_reverse]
    exact (i1.up g2.g).rev
end
/-! ### a field of what a call hands back -/
theorem es_fld {X : Cx} {E : L2.St → XK} {Γ : List B} {e : Expr} {n f : Str} {τ : Type} {ds : τ → List (Str × D)} {z : τ → D} {r : Out τ} {pos : Pos} (he : ERs X E Γ e (rsOf (fun v => .v (.ins n (ds v))) r)) (hf : FldA X.K n f) (hl : ∀ v, (ds v).lookup f = some (z v)) (hb : attributeBase e f X.env (eval e X.env) = eval e X.env := by first | exact ab_ns rfl | rfl) : ERs X E Γ (.Attribute e f pos) (rsOf (fun v => .v (z v)) r) :=
  es_of (pe_fld pe_w hb) fun F σ G H s Q q => he F σ G H s _ (by
    cases r with
    | stk => exact q
    | err x => exact q
    | ok v =>
      have q : ∀ w G' H', Grow G H G' H' → Is X.K G' w (z v) → Q w H' := q
      intro u G1 H1 g1 i1
      obtain ⟨C, hc, hn⟩ := hf.ex
      cases i1 with
      | @ins a C' dx _ xs _ h0 h1 h2 =>
        have e := hc.eq h0
        subst e
        obtain ⟨w, k1, k2⟩ := h2.get (hl v)
        exact ⟨a, C', dx, xs, w, rfl, g1.s _ _ h1, hc.cl, hn, k1, q w G1 H1 g1 k2⟩)
end Sd

namespace Sd
open PySem PySem.Spec PyProof.Rows L2
/-! ### None, or a list of one's own -/
def optRes {τ : Type} (enc : τ → D) : Option (List τ) → Res
  | none => .v .non
  | some l => .o (.lst (l.map enc))
theorem optRes_is {τ : Type} {enc : τ → D} (v : Option (List τ)) : (∃ z, optRes enc v = .v z) ∨ ∃ z, optRes enc v = .o z := by
  cases v with
  | none => exact .inl ⟨_, rfl⟩
  | some l => exact .inr ⟨_, rfl⟩
def optK {τ S T R : Type} (v : Option (List τ)) (a : Co S T R) (b : List τ → Co S T R) : Co S T R := match v with
  | none => a
  | some l => b l
section
variable {X : Cx} {E : XK} {Γ : List B} {S T R : Type} {Γs : S → List B} {Γb : T → List B} {f : R → Res} {rest : List Stmt} {pos py : Pos} {lv : Nat} {N : List Str} {sc : Scope} {y : Str} {e : Expr} {τ : Type} {enc : τ → D}
theorem c_setRQ (i : Nat) (enc : τ → D) {r : Out (Option (List τ))} {k1 : Co S T R} {k2 : List τ → Co S T R} (hX : XOk lv N sc X) (hn : N[i]? = some y) (hl : Loc sc y) (he : ER X E Γ e (rsOf (optRes enc) r)) (h1 : BC X E (Γ.set i (.d .non)) rest Γs Γb f k1) (h2 : ∀ l, BC X E (Γ.set i (.own (.lst (l.map enc)))) rest Γs Γb f (k2 l))
    (hs : swapsWith e (some (.Name y py)) pos.line X.env = pure false := by exact sw_ns rfl) : BC X E Γ (.Assign [.Name y py] e pos :: rest) Γs Γb f (bndO r fun v => optK v k1 k2) := by
  cases r with
  | stk => exact c_stk
  | err x => exact fun F G0 σ G H D s gr post => w_cons (ps_set hX.nd (hX.nm hn) (hX.lc hl) pe_w hs (.inl (hX.fn y))) (he F σ G H s _ (PostR.grow gr (show PostR X.K F G0 E D.rt (.x x) from post)))
  | ok v =>
    cases v with
    | none => exact c_setR (τ := Unit) i (fun _ => D.non) (r := .ok ()) (k := fun _ => k1) hX hn hl he (fun _ => h1) hs
    | some l => exact c_setRO (τ := List τ) i (fun l => .lst (l.map enc)) (r := .ok l) (k := k2) hX hn hl he h2 hs
/-- .. as data -/
theorem ed_okQ {r : Out (Option (List τ))} (h : ∀ E, PsAt X E → ERs X E Γ e (rsOf (optRes enc) r)) (hx : r.IsOk) : ED X Γ e (encO (fun l => D.lst (l.map enc)) (r.get none)) := by
  cases r with
  | stk => exact hx.elim
  | err x => exact hx.elim
  | ok v =>
    have k := h (fun _ => E0) (ps0 X)
    cases v with
    | none => exact fun F σ G H s Q q => k F σ G H s Q q
    | some l => exact EvO.frz fun F σ G H s Q q => k F σ G H s Q q
end
end Sd

namespace Sd
open PySem PySem.Spec PyProof.Rows L2
/-! ### y.insert(n, e) -/
section
variable {X : Cx} {E : XK} {Γ : List B} {S T R : Type} {Γs : S → List B} {Γb : T → List B} {f : R → Res} {rest : List Stmt} {pos py cpos apos : Pos} {lv : Nat} {N : List Str} {sc : Scope} {y : Str} {e ie : Expr}
theorem c_insert {τ : Type} {pa : Option Addr} (i : Nat) (enc : τ → D) {xs : List τ} {x : τ} {n : Int} {k : List τ → Co S T R} (hX : XOk lv N sc X) (hn : N[i]? = some y) (hl : Vis sc y) (h : Γ[i]? = some (B.own (.lst (xs.map enc)) pa)) (hi : ED X Γ ie (.int n)) (he : ED X Γ e (enc x)) (hz : xs.length < sizeLine) (hb : 0 ≤ n ∧ n < 2 ^ 63)
    (hr : ∀ zs, zs = xs.take n.toNat ++ [x] ++ xs.drop n.toNat → BC X E (Γ.set i (.own (.lst (zs.map enc)) pa)) rest Γs Γb f (k zs)) (hfew : ((backTo cpos (starEach (ie :: [e]) X.env)).all (fun x => !x.1) && (backToKw cpos (keywordEach [] X.env)).all (fun x => x.1.isSome) && decide ((ie :: [e] : List Expr).length + ([] : List Keyword).length + (if ([] : List Keyword).isEmpty then 0 else 1) < 30)) = true := by exact few_ok rfl)
    (hst : starEach (ie :: [e]) X.env = (false, eval ie X.env) :: starEach [e] X.env := by exact starEach_ns rfl) (hst2 : starEach (e :: []) X.env = (false, eval e X.env) :: starEach [] X.env := by exact starEach_ns rfl) (hpl : (backTo cpos (starEach [e] X.env)).any (·.1) = false := by exact plain_ok rfl) (hline : (apos.endLine == cpos.line) = true := by rfl) (hd : (y == ("__debug__" : Str)) = false := by decide) (hcd : (y == ("__classdict__" : Str)) = false := by decide) :
    BC X E Γ (.Expr (.Call (.Attribute (.Name y py) "insert" apos) [ie, e] [] cpos) pos :: rest) Γs Γb f (bnd (xs.take n.toNat ++ [x] ++ xs.drop n.toNat) k) := fun F G0 σ G H D s gr post => by
  obtain ⟨p, u, h1, h2, h3, h4, h5, _⟩ := s.own i _ _ h
  obtain ⟨vs, rfl, iv⟩ := h5.lst
  refine w_cons (ps_expr (pe_bm PySem.F.plainAttrs_list PySem.F.slot_list_insert PySem.F.type_list_insert mt_insert (pe_var (hX.nm hn) (hX.vs hl) hd hcd) (pa_cons pe_w (pa_cons pe_w pa_nil hst2) hst) (ab_ns rfl) hfew hline hst hpl) (sw_ns rfl)) ?_
  refine ⟨_, h1, .inl ⟨rfl, vs, .inl (.inl h2)⟩, hi F σ G H s _ fun q G1 H1 g1 i1 => he F σ G1 H1 (s.grow g1) _ fun w G2 H2 g2 i2 => ?_⟩
  cases i1
  have g3 := g1.trans g2
  have s1 := s.grow g3
  have nG : G2 p = none := g3.f p _ h2 h3
  refine ⟨p, vs, n, w, rfl, rfl, g3.h _ _ h2, by rw [iv.len, List.length_map]; exact hz, hb.1, hb.2, ?_⟩
  have iv2 := iv.up g3.g
  have s2 := s1.mut (u := .lst (vs.take n.toNat ++ [w] ++ vs.drop n.toNat)) (o' := .lst ((xs.take n.toNat ++ [x] ++ xs.drop n.toNat).map enc)) h h1 (by
    show IsAll _ _ _ _
    rw [List.map_append, List.map_append, List.map_take, List.map_drop]
    exact ((iv2.take _).app (.cons i2 .nil)).app (iv2.drop _))
  have g4 := gr.trans g3
  refine hr _ rfl F G0 σ G2 _ D s2 ⟨g4.g, fun b o eo => ?_, s2.sub, g4.f⟩ (post.up g3.g)
  rw [upd_ne (ne_of_none eo h4)]
  exact g4.h b o eo
end
/-! ### isinstance of the exception held, by a tuple of classes -/
def rIsXT (K : PySem.W.Frag) (C a : Addr) (d : Option Addr) : List V → Hp → VK → Prop := fun xs H Q => ∃ (tp : Addr) (ds : List Addr) (b : Bool), xs = [.ref a, .ref tp] ∧ SqT K H tp (ds.map V.ref) ∧ PySem.W.kitAny K (.ref C) (ds.map Value.ref) = some b ∧ (d = none ∨ ∃ p fs, d = some p ∧ H p = some (.xd fs)) ∧ Q (.bl b) H
theorem vals_refs : ∀ {ds : List Addr} {us : List Value}, Vals (ds.map V.ref) us → us = ds.map Value.ref
  | [], _, .nil => rfl
  | d :: ds, _, .cons r rs => by
    cases r
    rw [vals_refs rs]
    rfl
theorem call_isXT {X : Cx} {a C : Addr} {d : Option Addr} {oe : Obj} {pn : List (Addr × Obj)} (T : ExcC X.K C) (hz : Zc (.ref C) d oe) (hf : ∃ vs, oe.data = .fields vs) : CallR (X.suite a ((a, oe) :: pn)) (.builtin "isinstance") (rIsXT X.K C a d) := by
  intro pins s σ H xs us Q I r h
  obtain ⟨tp, ds, b, rfl, hT, e, hd, q⟩ := h
  obtain ⟨u1, u2, rfl, rx, r2⟩ := vals2 r
  cases rx
  cases (show u2 = Value.ref tp from r2)
  obtain ⟨hget, _⟩ := I.pin (a, oe) (List.mem_append.mpr (.inl List.mem_cons_self))
  obtain ⟨vs, hv⟩ := hf
  have hcl : (PySem.W.clsIn X.K C).isSome = true := by
    have z := T.hd
    unfold PySem.W.hasDictIn at z
    cases q : PySem.W.clsIn X.K C with
    | none =>
      rw [q] at z
      cases z
    | some _ => rfl
  have J : ∃ od, PySem.W.InstAt s.heap a oe C od := by
    obtain ⟨oc, od, oda, osl⟩ := oe
    obtain ⟨h1, h2⟩ := hz
    dsimp only at h1 h2 hv
    subst h1 h2 hv
    rcases hd with hd | ⟨p, fs, hd, hp⟩
    · subst hd
      exact ⟨none, hget, rfl, rfl, trivial⟩
    · subst hd
      obtain ⟨o, ho⟩ := objOk_get (I.hok p _ hp)
      exact ⟨some o, hget, rfl, rfl, ho⟩
  obtain ⟨od, J⟩ := J
  obtain ⟨its, rv, ⟨o, h1, h2, n, h3⟩, _⟩ := I.tuple hT
  have e3 := vals_refs rv
  subst e3
  obtain ⟨oc, od2, dt, sl⟩ := o
  simp only at h2 h3
  subst h2 h3
  exact PySem.W.kia_tup (PySem.W.kitx_exc (od := od) hcl T.hg T.hk T.hs T.ha T.hn T.ht T.hm) I.kIn J h1 e (fun z => nomatch z) fun tk => ⟨.bl b, H, I.kept (t' := tk) fun _ _ z => z, rfl, q⟩
theorem isAll_fns {K : PySem.W.Frag} {G : Hp} : ∀ {cs : List Str} {vs : List V}, IsAll K G vs (cs.map D.fn) → ∃ ds : List Addr, vs = ds.map V.ref ∧ ds.length = cs.length ∧ ∀ (j : Nat) (c : Str) (a : Addr), cs[j]? = some c → ds[j]? = some a → PySem.W.nsIn K mainGlobals c = some (some (.ref a))
  | [], _, h => by
    cases h
    exact ⟨[], rfl, rfl, fun j c a e => nomatch e⟩
  | c :: cs, _, h => by
    cases h with
    | cons i1 i2 =>
      cases i1 with
      | @fn a _ h0 =>
        obtain ⟨ds, rfl, hl, hd⟩ := isAll_fns i2
        refine ⟨a :: ds, rfl, by rw [List.length_cons, List.length_cons, hl], fun j c' a' e1 e2 => ?_⟩
        cases j with
        | zero =>
          cases e1
          cases e2
          exact h0
        | succ j => exact hd j c' a' e1 e2
section
variable {X : Cx} {Γ : List B} {pos p p2 py : Pos} {b : Expr} {c y f : Str} {a : Addr} {d : Option Addr} {x : Exn} {N : List Str} {sc : Scope} {lv : Nat}
theorem kitAny_tab {K : PySem.W.Frag} {mg : Str → Option Value} {C : Addr} {n : Str} (hcls : PySem.W.nsIn K mainGlobals n = some (some (.ref C))) : ∀ (cs : List (Str × (Str → Option Bool))) (ds : List Addr), ds.length = cs.length → (∀ (j : Nat) (c : Str × (Str → Option Bool)) (a : Addr), cs[j]? = some c → ds[j]? = some a → PySem.W.nsIn K mainGlobals c.1 = some (some (.ref a))) → (∀ z ∈ cs, ExIC K mg z.1 z.2 ∧ FnV K mg z.1) → (∀ z ∈ cs, (z.2 n).isSome = true) →
    PySem.W.kitAny K (.ref C) (ds.map Value.ref) = some (cs.any fun z => (z.2 n).getD false)
  | [], [], _, _, _, _ => rfl
  | [], _ :: _, h, _, _, _ => absurd h (by simp)
  | _ :: _, [], h, _, _, _ => absurd h (by simp)
  | z :: cs, a :: ds, hl, hd, hT, hr => by
    obtain ⟨k1, k2⟩ := hT z List.mem_cons_self
    obtain ⟨D', hD, hI⟩ := k1.ex
    obtain ⟨g, hg1, hg2⟩ := k2.ex
    have e1 := hd 0 z a rfl rfl
    rw [hg1] at e1
    rw [hD] at hg2
    have ea : D' = a := by
      cases e1
      cases hg2
      rfl
    subst ea
    obtain ⟨r, er⟩ := Option.isSome_iff_exists.mp (hr z List.mem_cons_self)
    obtain ⟨C', eC, _, ko⟩ := hI.ex _ _ _ er hcls
    cases eC
    have ih := kitAny_tab hcls cs ds (by simpa using hl) (fun j c a e1 e2 => hd (j + 1) c a e1 e2) (fun z hz => hT z (List.mem_cons_of_mem _ hz)) fun z hz => hr z (List.mem_cons_of_mem _ hz)
    refine L2.kitAny_cons ko (fun hb => ?_) fun hb => ?_
    · rw [List.any_cons, er, Option.getD_some, hb, Bool.false_or]
      exact ih
    · rw [List.any_cons, er, Option.getD_some, hb, Bool.true_or]
theorem ed_isXT (i : Nat) (z0 : Str × (Str → Option Bool)) (zs : List (Str × (Str → Option Bool))) (hX : XOk lv N sc X) (hn : N[i]? = some y) (hv : Vis sc y) (hE : HEx X a x d) (h : Γ[i]? = some (.exc a d x.fs)) (hg : Gl X "isinstance") (hm : X.mg "isinstance" = none) (hb : ED X Γ b (.tup ((z0 :: zs).map fun z => D.fn z.1))) (hT : ∀ z ∈ z0 :: zs, ExIC X.K X.mg z.1 z.2 ∧ FnV X.K X.mg z.1) (hr : ∀ z ∈ z0 :: zs, (z.2 x.cls).isSome = true)
    (hst : starEach [b] X.env = (false, eval b X.env) :: starEach [] X.env := by exact starEach_ns rfl) (hpl : (backTo pos (starEach [b] X.env)).any (·.1) = false := by exact plain_ok rfl)
    (hd : (y == ("__debug__" : Str)) = false := by decide) (hcd : (y == ("__classdict__" : Str)) = false := by decide) : ED X Γ (.Call (.Name "isinstance" p) [.Name y py, b] [] pos) (.bl ((z0 :: zs).any fun z => (z.2 x.cls).getD false)) := by
  obtain ⟨oe, pn, cls, w1, w2, w3, hz, hf, hcls⟩ := hE
  have ws := wish_suite w1 w2 w3
  obtain ⟨D', hD, hI⟩ := (hT z0 List.mem_cons_self).1.ex
  obtain ⟨r0, e0⟩ := Option.isSome_iff_exists.mp (hr z0 List.mem_cons_self)
  obtain ⟨C, rfl, k1, k2⟩ := hI.ex _ _ _ e0 hcls
  exact ed_of (pe_callB (call_wish (by rw [ws]; exact call_isXT (X := X) k1 hz hf)) hg hm (by decide +kernel) (pa_cons (pe_exv i hX hn hv hd hcd) (pa_cons pe_w pa_nil hst) (starEach_ns rfl)) (by decide) (by decide) (starEach_ns rfl) hpl) fun F σ G H s Q q => by
    obtain ⟨v, h1, h2⟩ := s.exc i _ _ _ h
    obtain rfl := h2.1
    refine ⟨_, h1, hb F σ G H s _ fun w G1 H1 g1 i1 => ?_⟩
    have i1' : Is X.K G1 w (.tup (((z0 :: zs).map (·.1)).map D.fn)) := by
      rw [List.map_map]
      exact i1
    cases i1' with
    | @tup tp vs _ ht iv =>
      obtain ⟨ds, rfl, hl, hds⟩ := isAll_fns iv
      rw [List.length_map] at hl
      exact ⟨tp, ds, _, rfl, Evl.ex_t g1.s ht, kitAny_tab (mg := X.mg) hcls (z0 :: zs) ds hl (fun j c a e1 e2 => hds j c.1 a (by rw [List.getElem?_map, e1]; rfl) e2) hT hr, h2.dict s.sub |>.imp id fun ⟨p, vs, k3, k4⟩ => ⟨p, vs, k3, g1.h _ _ k4⟩, q _ G1 H1 g1 (.bl _)⟩
end
end Sd

namespace Sd
open PySem PySem.Spec PyProof.Rows L2
/-! ### a comprehension over a list of one's own -/
def ItW (K : PySem.W.Frag) (Γ : List B) (wi : TI) (xs : List D) : Prop := ∀ F σ G H, Stt K F Γ σ G H → ∀ R : It → Hp → Prop,
  (∀ (J : It) (Gd : Hp → Prop) (Y : Nat → Hp → V → Hp → Prop) G' H', Grow G H G' H' → Walk J xs.length Gd Y → (∀ G2 H2, Grow G' H' G2 H2 → Gd H2) →
    (∀ i G2 H2 v H3, Grow G' H' G2 H2 → Y i H2 v H3 → ∃ G3 x, xs[i]? = some x ∧ Grow G2 H2 G3 H3 ∧ Is K G3 v x) → R J H') → wi σ H R
def ITW (X : Cx) (Γ : List B) (tg iter : Expr) (xs : List D) : Prop := ∃ wi, PI X tg iter wi ∧ ItW X.K Γ wi xs
section
variable {X : Cx} {Γ : List B} {tg a : Expr} {ds : List D}
theorem itw_el (h : EL X Γ a ds) : ITW X Γ tg a ds :=
  ⟨_, pi_list pe_w, fun F σ G H s R q => h F σ G H s _ fun p vs G1 H1 g1 h1 i1 => by
    have hl := i1.len
    refine ⟨p, rfl, ⟨vs, .inl (.inl h1)⟩, q _ _ _ G1 H1 g1 (hl ▸ walk_list (K := X.K) (a := p) (xs := vs)) (fun G2 H2 g2 => .inl (.inl (g2.h _ _ h1))) fun i G2 H2 v H3 g2 y => ?_⟩
    obtain ⟨rfl, hv⟩ := y
    obtain ⟨d, h2, h3⟩ := i1.getV hv
    exact ⟨G2, d, h2, .refl g2.s, h3.up g2.g⟩⟩
end
theorem lc_okW {X : Cx} {Γ : List B} {elt tg iter : Expr} {ifs : List Expr} {scope : Scope} {own : List (Str × Nat)} {g : TG} {js : List Nat} {Yt τ : Type} {encY : Yt → D} {enc : τ → D} (ys : List Yt) (p : Yt → Bool) (f : Yt → τ)
    (hi : ITW X Γ tg iter (ys.map encY)) (ok : BlkOk X.N X.env.scope scope own) (hg : ∀ s H C cl fp, PG (blkX X scope s H C cl fp) tg g) (hj : ∀ j ∈ js, j ∈ own.map (·.2)) (hz : ys.length < sizeLine) (Γe : Yt → List B)
    (htg : ∀ y, y ∈ ys → TgD X.K g js (wipeB Γ (own.map (·.2))) (encY y) (Γe y)) (ht : ∀ y, y ∈ ys → ETs X scope (Γe y) ifs (p y)) (he : ∀ y, y ∈ ys → p y = true → ∀ s H C cl fp, ED (blkX X scope s H C cl fp) (Γe y) elt (enc (f y)))
    (hifs : ifs.length ≤ 1 := by decide) : LcOk X Γ elt tg iter ifs scope own (.lst (((ys.filter p).map f).map enc)) := by
  obtain ⟨wi, hi1, hi2⟩ := hi
  -- the tests
  obtain ⟨tt, ht1, ht2⟩ : ∃ tt : TT, (∀ s H C cl fp, PTs (blkX X scope s H C cl fp) ifs tt) ∧ ∀ y, y ∈ ys → EvT X.K (Γe y) tt (p y) := by
    match ifs, hifs, ht with
    | [], _, ht => exact ⟨tYes, fun s H C cl fp => pts_nil, fun y hy F σ G H st Q q => by
        have e : p y = true := ht y hy
        rw [e] at q
        exact q G H (.refl st.sub)⟩
    | [c], _, ht => exact ⟨fun σ H Q => ∀ s H' C cl fp, WT (blkX X scope s H' C cl fp) c σ H Q, fun s H C cl fp => pts_one ⟨fun pins sh σ H1 Q I h => (h s H C cl fp).run pins sh I⟩, fun y hy F σ G H st Q q s H' C cl fp => (show ET (blkX X scope s H' C cl fp) (Γe y) c (p y) from (show ∀ s H C cl fp, ET (blkX X scope s H C cl fp) (Γe y) c (p y) from ht y hy) s H' C cl fp) F σ G H st Q q⟩
  obtain ⟨te, he1, he2⟩ : ∃ te : TE, (∀ s H C cl fp, PE (blkX X scope s H C cl fp) elt te) ∧ ∀ y, y ∈ ys → p y = true → EvD X.K (Γe y) te (enc (f y)) :=
    ⟨fun σ H Q => ∀ s H' C cl fp, WE (blkX X scope s H' C cl fp) elt σ H Q, fun s H C cl fp => ⟨fun pins sh σ H1 Q I h => (h s H C cl fp).run pins sh I⟩, fun y hy hp F σ G H st Q q s H' C cl fp => he y hy hp s H' C cl fp F σ G H st Q q⟩
  refine ⟨wi, g, tt, te, hi1, ok, hg, ht1, he1, ?_⟩
  intro F σ G H st Q q
  refine hi2 F σ G H st _ fun J Gd Y G1 H1 g1 W hGd hY Dl hD => ?_
  have hlen : (ys.map encY).length = ys.length := List.length_map _
  rw [hlen] at W
  refine lc_it (g := g) (tt := tt) (te := te) (vs := own.map (·.2)) (σ := σ) (H1 := H1) (D := Dl) (Qd := fun H => Q (.ref Dl) H) W (fun i H' => ∃ G' vs, Grow G1 H1 G' H' ∧ G' Dl = none ∧ H' Dl = some (.lst vs) ∧ IsAll X.K G' vs ((((ys.take i).filter p).map f).map enc)) ?_ (fun i H' _ ⟨G', _, gr, _⟩ => hGd G' H' gr) ?_ ?_
  · exact ⟨G1, [], Grow.lay g1.s hD, Evl.fresh_back g1.s hD, upd_same, .nil⟩
  · rintro i x H2 H3 hi ⟨G2, vs, gr, nD, hDl, iv⟩ hy
    obtain ⟨G3, xd, hx, gr3, ix⟩ := hY i G2 H2 x H3 gr hy
    rw [List.getElem?_map] at hx
    cases hyi : ys[i]? with
    | none =>
      rw [hyi] at hx
      cases hx
    | some y =>
      rw [hyi] at hx
      cases hx
      have hmem : y ∈ ys := List.mem_of_getElem? hyi
      have htake : ys.take (i + 1) = ys.take i ++ [y] := by
        rw [List.take_succ, hyi]
        rfl
      have st3 : Stt X.K F Γ σ G3 H3 := st.grow ((g1.trans gr).trans gr3)
      have hlt : vs.length < sizeLine := by
        rw [iv.len, List.length_map, List.length_map]
        have h1 := List.length_filter_le p (ys.take i)
        have h2 := List.length_take_le i ys
        omega
      refine htg y hmem F _ G3 H3 x (st3.wipe _) ix _ fun ws st4 => ⟨?_, ?_⟩
      · rw [wipe_many hj, wipe_wipe]
      · refine ht2 y hmem F _ G3 H3 st4 _ fun G4 H4 gr4 => ?_
        have grw : Grow G1 H1 G4 H4 := (gr.trans gr3).trans gr4
        have nD4 : G4 Dl = none := gr4.f Dl _ (gr3.h _ _ hDl) (gr3.f Dl _ hDl nD)
        have hD4 : H4 Dl = some (.lst vs) := gr4.h _ _ (gr3.h _ _ hDl)
        have iv4 := iv.up (gr3.g.trans gr4.g)
        cases hp : p y with
        | false =>
          show ∃ G' vs, _
          refine ⟨G4, vs, grw, nD4, hD4, ?_⟩
          rw [htake, List.filter_append]
          simp only [List.filter_cons, hp, List.filter_nil, List.append_nil, Bool.false_eq_true, if_false]
          exact iv4
        | true =>
          refine he2 y hmem hp F _ G4 H4 (st4.grow gr4) _ fun u G5 H5 gr5 i5 => ?_
          have hD5 : H5 Dl = some (.lst vs) := gr5.h _ _ hD4
          have nD5 : G5 Dl = none := gr5.f Dl _ hD4 nD4
          refine ⟨vs, hD5, hlt, G5, vs ++ [u], ⟨grw.g.trans gr5.g, fun b o e => ?_, fun b o e => ?_, fun b o e n => gr5.f b o (grw.h b o e) (grw.f b o e n)⟩, nD5, upd_same, ?_⟩
          · rw [upd_ne (ne_of_none e hD)]
            exact gr5.h b o (grw.h b o e)
          · rw [upd_ne (ne_of_none e nD5)]
            exact gr5.s b o e
          · rw [htake, List.filter_append]
            simp only [List.filter_cons, hp, List.filter_nil, if_true, List.map_append, List.map_cons, List.map_nil]
            exact (iv4.up gr5.g).app (.cons i5 .nil)
  · rintro H' ⟨G', vs, gr, nD, hDl, iv⟩
    rw [List.take_length] at iv
    exact q Dl _ G' H' (g1.trans gr) hDl nD (Evl.fresh_back g1.h hD) iv
theorem lc_ok0W {X : Cx} {Γ : List B} {elt tg iter : Expr} {scope : Scope} {own : List (Str × Nat)} {g : TG} {js : List Nat} {Yt τ : Type} {encY : Yt → D} {enc : τ → D} (ys : List Yt) (f : Yt → τ)
    (hi : ITW X Γ tg iter (ys.map encY)) (ok : BlkOk X.N X.env.scope scope own) (hg : ∀ s H C cl fp, PG (blkX X scope s H C cl fp) tg g) (hj : ∀ j ∈ js, j ∈ own.map (·.2)) (hz : ys.length < sizeLine) (Γe : Yt → List B)
    (htg : ∀ y, y ∈ ys → TgD X.K g js (wipeB Γ (own.map (·.2))) (encY y) (Γe y)) (he : ∀ y, y ∈ ys → ∀ s H C cl fp, ED (blkX X scope s H C cl fp) (Γe y) elt (enc (f y))) : LcOk X Γ elt tg iter [] scope own (.lst ((ys.map f).map enc)) := by
  have h := lc_okW (ifs := []) (encY := encY) (enc := enc) ys (fun _ => true) f hi ok hg hj hz Γe htg (fun _ _ => rfl) (fun y hy _ => he y hy) (by decide)
  rw [filter_tt] at h
  exact h
/-! ### x in xs, data of one kind -/
theorem room65 {lv : Nat} {A : Around} (h : RoomB lv A) : A.units + 65 < cLine := by
  have := h.un
  omega
theorem pyDs_map {τ : Type} (enc : τ → D) : ∀ xs : List τ, pyDs (xs.map enc) = xs.map fun x => pyD (enc x)
  | [] => rfl
  | x :: xs => by
    show pyD (enc x) :: pyDs (xs.map enc) = _
    rw [pyDs_map enc xs]
    rfl
theorem any_eqD {τ : Type} [DecidableEq τ] {n : Nat} {enc : τ → D} (h : EqT n enc) (a : τ) (xs : List τ) : ((pyDs (xs.map enc)).any fun z => PyData.eqv z (pyD (enc a))) = decide (a ∈ xs) := by
  rw [pyDs_map, List.any_map]
  have e : ∀ x : τ, PyData.eqv (pyD (enc x)) (pyD (enc a)) = decide (x = a) := fun x => h.eq x a
  induction xs with
  | nil => rfl
  | cons x xs ih =>
    rw [List.any_cons, ih]
    show (PyData.eqv (pyD (enc x)) (pyD (enc a)) || decide (a ∈ xs)) = _
    rw [e]
    by_cases hx : x = a
    · rw [decide_eq_true hx, decide_eq_true (p := a ∈ x :: xs) (by rw [hx]; exact List.mem_cons_self)]
      rfl
    · rw [decide_eq_false hx, Bool.false_or]
      exact decide_eq_decide.mpr ⟨fun m => List.mem_cons_of_mem _ m, fun m => (List.mem_cons.mp m).resolve_left fun e => hx e.symm⟩
theorem eqk_lst {τ : Type} [DecidableEq τ] {n : Nat} {enc : τ → D} (h : EqT n enc) (xs : List τ) : eqk (n + 1) (.lst (xs.map enc)) = true := by
  show (xs.map enc).all (eqk n) = true
  rw [List.all_map, List.all_eq_true]
  exact fun x _ => h.k x
section
variable {X : Cx}
theorem od_inX {τ : Type} [DecidableEq τ] {n : Nat} {enc : τ → D} (h : EqT n enc) (hu : X.A.units + 65 < cLine) (a : τ) (xs : List τ) [dc : Decidable (a ∈ xs)] (hn : n ≤ 63 := by decide) : OpD X (compareOp .In) (enc a) (.lst (xs.map enc)) (.bl (@decide (a ∈ xs) dc)) := ⟨_, op_inD hu, fun v w G H e iv iw Q q => by
  refine ⟨pyD (enc a), pyDs (xs.map enc), dp_of e n _ _ iv (h.k a), dp_of e (n + 1) _ _ iw (eqk_lst h xs), eqk_shaped iv (h.k a) (by omega), eqk_shaped iw (eqk_lst h xs) (by omega), ?_⟩
  rw [(any_eqD h a xs).trans (decide_eq_decide.mpr Iff.rfl : _ = @decide (a ∈ xs) dc)]
  exact q _ G H (.refl e) (.bl _)⟩
theorem od_notInX {τ : Type} [DecidableEq τ] {n : Nat} {enc : τ → D} (h : EqT n enc) (hu : X.A.units + 65 < cLine) (a : τ) (xs : List τ) [dc : Decidable (a ∈ xs)] (hn : n ≤ 63 := by decide) : OpD X (compareOp .NotIn) (enc a) (.lst (xs.map enc)) (.bl (!@decide (a ∈ xs) dc)) := ⟨_, op_notInD hu, fun v w G H e iv iw Q q => by
  refine ⟨pyD (enc a), pyDs (xs.map enc), dp_of e n _ _ iv (h.k a), dp_of e (n + 1) _ _ iw (eqk_lst h xs), eqk_shaped iv (h.k a) (by omega), eqk_shaped iw (eqk_lst h xs) (by omega), ?_⟩
  rw [(any_eqD h a xs).trans (decide_eq_decide.mpr Iff.rfl : _ = @decide (a ∈ xs) dc)]
  exact q _ G H (.refl e) (.bl _)⟩
/-! ### y.remove(e) -/
def rRemD (K : PySem.W.Frag) : V → List V → Hp → VK → Prop := fun x xs H Q => ∃ (a : Addr) (y : V) (vs : List V) (d : PyData) (ds : List PyData) (j : Nat) (z : PyData), x = V.ref a ∧ xs = [y] ∧ H a = some (.lst vs) ∧ DpAll K H vs ds ∧ Dp K H y d ∧
  SeqAt.shaped (.list ds) = true ∧ SeqAt.shaped d = true ∧ ds[j]? = some z ∧ PyData.eqv z d = true ∧ (∀ (m : Nat) (z' : PyData), m < j → ds[m]? = some z' → PyData.eqv z' d = false) ∧ Q .non (upd H a (.lst (vs.eraseIdx j)))
theorem vals_erase : ∀ {vs : List V} {us : List Value} (j : Nat), Vals vs us → Vals (vs.eraseIdx j) (us.eraseIdx j)
  | _, _, _, .nil => .nil
  | _, _, 0, .cons _ h => h
  | _, _, j + 1, .cons h0 h => .cons h0 (vals_erase j h)
theorem mt_removeD (hu : X.A.units + 65 < cLine) : MtR X "list.remove" (rRemD X.K) := by
  intro pins s σ H x xs v us Q I rx rxs h
  obtain ⟨a, y, vs, d, ds, j, z, rfl, rfl, hH, ha, hy, sl, sd, hz, hzj, hno, q⟩ := h
  cases rx
  cases rxs with
  | cons ry rt =>
    rename_i uy ut
    cases rt
    obtain ⟨bs, r1⟩ := Dp.reads I d y uy hy ry
    have hxs : PyData.canLayAll0 ds = true := SeqAt.canLay_of_shaped sl
    have hroom : X.A.units + 1 + min (PyData.depthAll ds) d.depth < cLine := room_in_shaped sd hu
    obtain ⟨hlen, its, n, rv, hvl, ho⟩ := I.lstM hH
    obtain ⟨as, h4⟩ := Dp.readsAll I ds _ its ha rv
    have hn : its.length = ds.length := SeqAt.ReadsAll.length ds its as h4
    have hmap : its.map (SeqAt.readOf s.heap) = ds := SeqAt.readsAll_map ds its as hxs h4
    have hsl := sizeLine_eq
    obtain ⟨hjd, _⟩ := List.getElem?_eq_some_iff.mp hz
    have hjl : j < its.length := by omega
    have hj : j < its.toArray.size := by simpa using hjl
    have at_ : ∀ (m : Nat) (hm : m < its.toArray.size) (z' : PyData), ds[m]? = some z' → SeqAt.readOf s.heap its.toArray[m] = z' := by
      intro m hm z' hz'
      have hml : m < its.length := by simpa using hm
      rw [← hmap, List.getElem?_map, List.getElem?_eq_getElem hml] at hz'
      have e1 : SeqAt.readOf s.heap its[m] = z' := Option.some.inj (show some (SeqAt.readOf s.heap its[m]) = some z' from hz')
      simpa using e1
    refine call_meets PySem.F.slot_list_remove ⟨_, ho, rfl⟩ PySem.F.entry_list_remove (PySem.F.args_list_remove_2 _ _)
      (SeqAt.list_removeAt a its.toArray n none #[] uy (fun u => PyData.eqv (SeqAt.readOf s.heap u) d) j hj ?_ ?_ (by rw [List.size_toArray]; omega)) ⟨ho, SeqAt.items_eqAt (vs := its.toArray) (show ReadsAll s.heap its.toArray.toList ds as from h4) r1 hxs (SeqAt.canLay_of_shaped sd) hroom, ?_⟩
    · show PyData.eqv (SeqAt.readOf s.heap its.toArray[j]) d = true
      rw [at_ j hj z hz]
      exact hzj
    · intro m hm hmj
      have hmd : m < ds.length := by
        have : m < its.length := by simpa using hm
        omega
      have hz' : ds[m]? = some ds[m] := List.getElem?_eq_getElem hmd
      show PyData.eqv (SeqAt.readOf s.heap its.toArray[m]) d = false
      rw [at_ m hm _ hz']
      exact hno m _ hmj hz'
    · refine ⟨.non, _, I.lset (its' := its.eraseIdx j) hH ho ?_ (vals_erase j rv) ?_, rfl, q⟩
      · apply Array.toList_inj.mp
        simp [Array.toList_eraseIdxIfInBounds]
      · have := List.length_eraseIdx_le vs j
        omega
end
theorem IsAll.erase {K : PySem.W.Frag} {G : Hp} : ∀ {vs : List V} {ds : List D} (j : Nat), IsAll K G vs ds → IsAll K G (vs.eraseIdx j) (ds.eraseIdx j)
  | _, _, _, .nil => .nil
  | _, _, 0, .cons _ h => h
  | _, _, j + 1, .cons h0 h => .cons h0 (h.erase j)
theorem map_erase {α β : Type} (f : α → β) : ∀ (xs : List α) (j : Nat), (xs.eraseIdx j).map f = (xs.map f).eraseIdx j
  | [], _ => rfl
  | _ :: _, 0 => rfl
  | x :: xs, j + 1 => by
    show f x :: (xs.eraseIdx j).map f = f x :: (xs.map f).eraseIdx j
    rw [map_erase f xs j]
/-- the first that is it, taken out -/
def remS {τ : Type} [DecidableEq τ] (xs : List τ) (x : τ) : List τ := xs.eraseIdx (xs.findIdx fun y => decide (y = x))
section
variable {X : Cx} {E : XK} {Γ : List B} {S T R : Type} {Γs : S → List B} {Γb : T → List B} {f : R → Res} {rest : List Stmt} {pos py cpos apos : Pos} {lv : Nat} {N : List Str} {sc : Scope} {y : Str} {e : Expr}
theorem c_remove {τ : Type} [DecidableEq τ] {nn : Nat} {pa : Option Addr} (i : Nat) (enc : τ → D) {xs : List τ} {x : τ} {k : List τ → Co S T R} (hq : EqT nn enc) (hX : XOk lv N sc X) (hn : N[i]? = some y) (hl : Vis sc y) (h : Γ[i]? = some (B.own (.lst (xs.map enc)) pa)) (he : ED X Γ e (enc x)) (hm : x ∈ xs)
    (hr : ∀ zs, zs = remS xs x → BC X E (Γ.set i (.own (.lst (zs.map enc)) pa)) rest Γs Γb f (k zs)) (hnn : nn ≤ 63 := by decide) (hfew : ((backTo cpos (starEach (e :: []) X.env)).all (fun x => !x.1) && (backToKw cpos (keywordEach [] X.env)).all (fun x => x.1.isSome) && decide ((e :: ([] : List Expr)).length + ([] : List Keyword).length + (if ([] : List Keyword).isEmpty then 0 else 1) < 30)) = true := by exact few_ok rfl)
    (hst : starEach (e :: []) X.env = (false, eval e X.env) :: starEach [] X.env := by exact starEach_ns rfl) (hline : (apos.endLine == cpos.line) = true := by rfl) (hd : (y == ("__debug__" : Str)) = false := by decide) (hcd : (y == ("__classdict__" : Str)) = false := by decide) :
    BC X E Γ (.Expr (.Call (.Attribute (.Name y py) "remove" apos) [e] [] cpos) pos :: rest) Γs Γb f (bnd (remS xs x) k) := fun F G0 σ G H D s gr post => by
  obtain ⟨p, u, h1, h2, h3, h4, h5, _⟩ := s.own i _ _ h
  obtain ⟨vs, rfl, iv⟩ := h5.lst
  refine w_cons (ps_expr (pe_bm PySem.F.plainAttrs_list PySem.F.slot_list_remove PySem.F.type_list_remove (mt_removeD (room65 hX.room)) (pe_var (hX.nm hn) (hX.vs hl) hd hcd) (pa_cons pe_w pa_nil hst) (ab_ns rfl) hfew hline hst (plain_ok rfl)) (sw_ns rfl)) ?_
  refine ⟨_, h1, .inl ⟨rfl, vs, .inl (.inl h2)⟩, he F σ G H s _ fun w G2 H2 g2 i2 => ?_⟩
  have s1 := s.grow g2
  have nG : G2 p = none := g2.f p _ h2 h3
  have iv2 := iv.up g2.g
  have hlt : xs.findIdx (fun y => decide (y = x)) < xs.length := List.findIdx_lt_length_of_exists ⟨x, hm, decide_eq_true rfl⟩
  refine ⟨p, w, vs, pyD (enc x), pyDs (xs.map enc), xs.findIdx (fun y => decide (y = x)), pyD (enc xs[xs.findIdx (fun y => decide (y = x))]), rfl, rfl, g2.h _ _ h2, dps_of (fun d v => dp_of g2.s nn d v) _ _ iv2 (by rw [List.all_map, List.all_eq_true]; exact fun x _ => hq.k x), dp_of g2.s nn _ _ i2 (hq.k x), ?_, eqk_shaped i2 (hq.k x) (by omega), ?_, ?_, ?_, ?_⟩
  · have e1 := can_pys (K := X.K) (G := G2) (fun d v => can_py nn d v) (xs.map enc) vs iv2 (by rw [List.all_map, List.all_eq_true]; exact fun x _ => hq.k x)
    have e2 := eqk_pys (fun d => eqk_py nn d) (xs.map enc) (by rw [List.all_map, List.all_eq_true]; exact fun x _ => hq.k x)
    show (PyData.canLay0 (.list (pyDs (xs.map enc))) && decide (PyData.depth (.list (pyDs (xs.map enc))) ≤ 64)) = true
    rw [Bool.and_eq_true]
    refine ⟨by simp only [PyData.canLay0]; exact e1, decide_eq_true ?_⟩
    simp only [PyData.depth]
    omega
  · rw [pyDs_map, List.getElem?_map, List.getElem?_eq_getElem hlt]
    rfl
  · have := List.findIdx_getElem (w := hlt)
    rw [show xs[xs.findIdx (fun y => decide (y = x))] = x from of_decide_eq_true this]
    exact (hq.eq x x).trans (decide_eq_true rfl)
  · intro m z' hmj hz'
    rw [pyDs_map, List.getElem?_map, List.getElem?_eq_getElem (by omega)] at hz'
    cases hz'
    have := List.not_of_lt_findIdx hmj
    have hne : ¬ xs[m] = x := of_decide_eq_false this
    exact (hq.eq xs[m] x).trans (decide_eq_false hne)
  · have s2 := s1.mut (u := .lst (vs.eraseIdx (xs.findIdx fun y => decide (y = x)))) (o' := .lst ((remS xs x).map enc)) h h1 (by
      show IsAll _ _ _ _
      have := iv2.erase (xs.findIdx fun y => decide (y = x))
      unfold remS
      rw [map_erase]
      exact this)
    have g3 := gr.trans g2
    refine hr _ rfl F G0 σ G2 _ D s2 ⟨g3.g, fun b o eo => ?_, s2.sub, g3.f⟩ (post.up g2.g)
    rw [upd_ne (ne_of_none eo h4)]
    exact g3.h b o eo
end
end Sd

namespace Sd
open PySem PySem.Spec PyProof.Rows L2
/-! ### for x in y, y a list of one's own that the body leaves as it is -/
theorem Stt.repa {K : PySem.W.Frag} {F : Hp} {Γ : List B} {σ : L2.St} {G H : Hp} (s : Stt K F Γ σ G H) {i : Nat} {o : OO} {pa : Option Addr} (h : Γ[i]? = some (B.own o pa)) (pa' : Option Addr) (hp : ∀ p, σ[i]? = some (some (.ref p)) → ∀ a, pa' = some a → a = p) : Stt K F (Γ.set i (.own o pa')) σ G H := by
  refine ⟨by rw [List.length_set]; exact s.len, s.sub, fun j x e => ?_, fun j o1 pb e => ?_, fun j k p o1 o2 pb pc e1 e2 e3 e4 => ?_, fun j xs e => ?_, fun j xa xd xf e => ?_, s.tre.sub (fun j x e => ?_) fun j o1 pb e => ?_⟩
  · rcases set_get e with ⟨_, e⟩ | ⟨_, e⟩
    · cases e
    · exact s.dat j x e
  · rcases set_get e with ⟨hj, e⟩ | ⟨_, e⟩
    · cases e
      subst hj
      obtain ⟨p, u, h1, h2, h3, h4, h5, _⟩ := s.own i o pa h
      exact ⟨p, u, h1, h2, h3, h4, h5, hp p h1⟩
    · exact s.own j o1 pb e
  · have g : ∀ {j : Nat} {o1 : OO} {pb : Option Addr}, (Γ.set i (B.own o pa'))[j]? = some (B.own o1 pb) → ∃ o2 pc, Γ[j]? = some (B.own o2 pc) := fun {j o1 pb} e => by
      rcases set_get e with ⟨hj, e⟩ | ⟨_, e⟩
      · subst hj
        exact ⟨_, _, h⟩
      · exact ⟨_, _, e⟩
    obtain ⟨_, _, g1⟩ := g e1
    obtain ⟨_, _, g2⟩ := g e2
    exact s.sep j k p _ _ _ _ g1 g2 e3 e4
  · rcases set_get e with ⟨_, e⟩ | ⟨_, e⟩
    · cases e
    · exact s.bor j xs e
  · rcases set_get e with ⟨_, e⟩ | ⟨_, e⟩
    · cases e
    · exact s.exc j xa xd xf e
  · rcases set_get e with ⟨_, e⟩ | ⟨_, e⟩
    · cases e
    · exact ⟨e, rfl⟩
  · rcases set_get e with ⟨hj, e⟩ | ⟨_, e⟩
    · subst hj
      exact ⟨⟨_, _, h⟩, rfl⟩
    · exact ⟨⟨_, _, e⟩, rfl⟩
theorem walk_listE {K : PySem.W.Frag} {a : Addr} {n : Nat} : Walk (Itl K a) n (fun H => ∃ xs, SqL K H a xs ∧ xs.length = n) (fun i H x H' => H' = H ∧ ∀ xs, SqL K H a xs → xs[i]? = some x) :=
  ⟨fun i _ hi ⟨xs, q, e⟩ => ⟨xs, xs[i], q, by simp [e, hi]⟩, fun _ ⟨xs, q, e⟩ => ⟨xs, q, by omega⟩, fun _ _ _ _ _ _ y => ⟨y.1, y.2⟩⟩
section
variable {X : Cx} {E : XK} {Γ : List B} {S T R : Type} {Γs : S → List B} {Γb : T → List B} {f : R → Res} {rest : List Stmt} {pos py : Pos} {lv : Nat} {N : List Str} {sc : Scope} {y : Str}
theorem c_forO {S' τ : Type} {Γl : Addr → S' → List B} {kr : S' → Co S T R} {tg : Expr} {body : List Stmt} {g : TG} {js : List Nat} {pa : Option Addr} (j : Nat) (enc : τ → D) (step : S' → τ → Co S' S' R) (s0 : S') (ys : List τ) (Γy : Addr → S' → τ → List B) (hM : XCm X E) (hX : XOk lv N sc X) (hn : N[j]? = some y) (hl : Vis sc y)
    (h : Γ[j]? = some (B.own (.lst (ys.map enc)) pa)) (hj : ∀ p s, (Γl p s)[j]? = some (B.own (.lst (ys.map enc)) (some p))) (h0 : ∀ p, Wk (Γ.set j (.own (.lst (ys.map enc)) (some p))) (Γl p s0)) (hg : PG X tg g) (htg : ∀ p s z, TgD X.K g js (Γl p s) (enc z) (Γy p s z))
    (hb : ∀ p s z, BC X E (Γy p s z) body (Γl p) (Γl p) f (step s z)) (hr : ∀ p s, BC X E ((Γl p s).set j (.own (.lst (ys.map enc)) pa)) rest Γs Γb f (kr s)) (hs : ∀ x, foldedSetIterable (.Name y py) X.env x = pure x := by exact fs_ns rfl) (hd : (y == ("__debug__" : Str)) = false := by decide) (hcd : (y == ("__classdict__" : Str)) = false := by decide) :
    BC X E Γ (.For tg (.Name y py) body [] pos :: rest) Γs Γb f ((coLoop step s0 ys).bind kr) := fun F G0 σ G H D s gr post => by
  obtain ⟨p, u, k1, k2, k3, k4, k5, k6⟩ := s.own j _ _ h
  obtain ⟨vs0, rfl, iv0⟩ := k5.lst
  have s1 : Stt X.K F (Γ.set j (.own (.lst (ys.map enc)) (some p))) σ G H := s.repa h (some p) fun q e a ea => by
    rw [k1] at e
    cases e
    cases ea
    rfl
  have po0 : PostC X.K F G0 G E D Γs Γb (Co.ctl f ((coLoop step s0 ys).bind kr)) := post
  rw [ctl_bind, ctl_loop] at po0
  refine (b_seq (X := X) (E := E) (Γ := Γ.set j (.own (.lst (ys.map enc)) (some p))) (st := .For tg (.Name y py) body [] pos) (rest := rest) (Γs := Γs) (Γb := Γb) (Γj := Γl p) (k := loop (fun s z => Co.ctl f (step s z)) s0 ys) (kr := fun s => Co.ctl f (kr s)) (fun F G0 σ G H D s gr post => ⟨_, ps_for hM.pown hM.calm (pi_list (pe_var (hX.nm hn) (hX.vs hl) hd hcd)) hg pss_w hs, ?_⟩) fun s' _ => ?_) F G0 σ G H D s1 gr po0
  · -- the walk
    obtain ⟨p', u', q1, q2, q3, q4, q5, q6⟩ := s.own j (.lst (ys.map enc)) (some p) (List.getElem?_set_self (List.getElem?_eq_some_iff.mp h).1)
    have ep := q6 p rfl
    subst ep
    obtain ⟨ws, rfl, iw⟩ := q5.lst
    refine ⟨_, q1, p, rfl, ⟨ws, .inl (.inl q2)⟩, ?_⟩
    refine for_it (g := g) (tb := wS X body) (D := D) (walk_listE (K := X.K) (a := p) (n := ys.length)) (fun i σ' H' => ∃ G' s', Ex G G' ∧ Stt X.K F (Γl p s') σ' G' H' ∧ Grow G0 F G' H' ∧ PostC X.K F G0 G' E D (Γl p) Γb (loop (fun s z => Co.ctl f (step s z)) s' (ys.drop i))) ?_ (fun i σ' H' _ ⟨G', s', e, st, _⟩ => ?_) ?_ ?_
    · exact ⟨G, s0, Evl.Ex.refl _, s.wk (h0 p), gr, post⟩
    · obtain ⟨p2, u2, r1, r2, r3, r4, r5, r6⟩ := st.own j _ _ (hj p s')
      have ep := r6 p rfl
      subst ep
      obtain ⟨w2, rfl, iw2⟩ := r5.lst
      exact ⟨w2, .inl (.inl r2), by rw [iw2.len, List.length_map]⟩
    · rintro i x σ' H2 H3 hi ⟨G2, s', e2, st, gr2, po⟩ ⟨rfl, hy⟩
      obtain ⟨p2, u2, r1, r2, r3, r4, r5, r6⟩ := st.own j _ _ (hj p s')
      have ep := r6 p rfl
      subst ep
      obtain ⟨w2, rfl, iw2⟩ := r5.lst
      have hx := hy w2 (.inl (.inl r2))
      obtain ⟨xd, hxd, ix⟩ := iw2.getV hx
      rw [List.getElem?_map] at hxd
      cases hyi : ys[i]? with
      | none =>
        rw [hyi] at hxd
        cases hxd
      | some z =>
        rw [hyi] at hxd
        cases hxd
        refine htg p s' z F σ' G2 H3 x st ix _ fun ws st4 => ?_
        have po3 := po
        rw [loop_drop hyi] at po3
        have hby := hb p s' z F G0 _ G2 H3 { D with nx := fun σ' H' => ∃ G' s', Ex G G' ∧ Stt X.K F (Γl p s') σ' G' H' ∧ Grow G0 F G' H' ∧ PostC X.K F G0 G' E D (Γl p) Γb (loop (fun s z => Co.ctl f (step s z)) s' (ys.drop (i + 1))), ct := fun σ' H' => ∃ G' s', Ex G G' ∧ Stt X.K F (Γl p s') σ' G' H' ∧ Grow G0 F G' H' ∧ PostC X.K F G0 G' E D (Γl p) Γb (loop (fun s z => Co.ctl f (step s z)) s' (ys.drop (i + 1))), bk := D.nx } st4 gr2
        refine hby ?_
        cases hst : Co.ctl f (step s' z) with
        | go s2 =>
          rw [hst] at po3
          exact fun σ5 G5 H5 e5 st5 gr5 => ⟨G5, s2, e2.trans e5, st5, gr5, PostC.up po3 e5⟩
        | brk s2 =>
          rw [hst] at po3
          exact fun σ5 G5 H5 e5 st5 gr5 => po3 σ5 G5 H5 e5 st5 gr5
        | ret r =>
          rw [hst] at po3
          exact po3
    · rintro σ' H' ⟨G', s', e, st, gr2, po⟩
      rw [List.drop_length] at po
      exact po σ' G' H' (Evl.Ex.refl _) st gr2
  · -- behind it
    intro F G0 σ G H D s gr post
    refine hr p s' F G0 σ G H D (s.repa (hj p s') pa fun q e a ea => ?_) gr post
    obtain ⟨p2, u2, r1, r2, r3, r4, r5, r6⟩ := s.own j _ _ (hj p s')
    have ep := r6 p rfl
    rw [r1] at e
    cases e
    rw [← ep]
    exact k6 a ea
end
end Sd

namespace Sd
open PySem PySem.Spec PyProof.Rows L2
/-! ### min of a list of lists of texts -/
def rMinL (K : PySem.W.Frag) : List V → Hp → VK → Prop := fun args H Q => ∃ (a : Addr) (ws : List V) (x : List Str) (xs : List (List Str)), args = [V.ref a] ∧ SqL K H a ws ∧ DpAll K H ws ((x :: xs).map PySem.W.Datum.toD) ∧ ∀ (i : Nat) (w : V), ws[i]? = some w → (x :: xs)[i]? = some (PySem.W.minOf x xs) → Q w H
theorem call_minL {X : Cx} (hc : X.calm = true) (hu : X.A.units + 64 < cLine) : CallR X (.builtin "min") (rMinL X.K) := by
  intro pins s σ H args us Q I r h
  obtain ⟨a, ws, x, xs, rfl, hs, hd, q⟩ := h
  rw [Vals.ref1 r]
  obtain ⟨its, rv, hpl, _⟩ := I.list hs
  obtain ⟨as, rs⟩ := Dp.readsAll I _ _ its hd rv
  refine PySem.W.min_list_datum (vs := its.toArray) (x := x) (xs := xs) (I.ok.hd hc) hpl.isList ⟨as, rs⟩ (by show X.A.units + 1 + 1 < cLine; omega) fun i v h' tk hv hm hk => ?_
  have hv' : its[i]? = some v := by simpa using hv
  have J : Inv X pins σ H { s with heap := h', toks := tk } := I.kept hk
  have hlen := rv.length
  have hi : i < its.length := (List.getElem?_eq_some_iff.mp hv').1
  obtain ⟨w, hw⟩ : ∃ w, ws[i]? = some w := ⟨_, List.getElem?_eq_getElem (by omega)⟩
  have hlx : its.length = ((x :: xs).map PySem.W.Datum.toD).length := SeqAt.ReadsAll.length _ its as rs
  rw [List.length_map] at hlx
  have e5 := SeqAt.readsAll_map_plain _ its as (PySem.W.plainAll_map (x :: xs)) rs
  have e6 : SeqAt.readOf s.heap v = PySem.W.Datum.toD ((x :: xs)[i]'(by omega)) := by
    have := congrArg (fun l => l[i]?) e5
    simp only [List.getElem?_map] at this
    rw [hv', List.getElem?_eq_getElem (by omega)] at this
    exact Option.some.inj this
  obtain ⟨bs, hr⟩ := hm
  have e7 := SeqAt.readOf_plain (PySem.W.Datum.plain _) hr
  obtain ⟨z, hz, cs, rd0⟩ := PySem.W.HoldAll.at (xs := x :: xs) ⟨as, rs⟩ hv'
  have rd : Reads s.heap v (PySem.W.Datum.toD ((x :: xs)[i]'(by omega))) cs := by
    rw [List.getElem?_eq_getElem (by omega)] at hz
    rw [Option.some.inj hz]
    exact rd0
  have e8 := SeqAt.readOf_plain (PySem.W.Datum.plain _) (Reads.keeps hk rd)
  have e9 : (x :: xs)[i]'(by omega) = PySem.W.minOf x xs := by
    have e10 := e8.symm.trans e7
    have e11 := PySem.W.Datum.eqv ((x :: xs)[i]'(by omega)) (PySem.W.minOf x xs)
    rw [← e10, PySem.W.Datum.eqv, decide_eq_true rfl] at e11
    exact of_decide_eq_true e11.symm
  obtain ⟨u, hu1, hu2⟩ := Vals.get rv hw
  rw [hv'] at hu1
  cases hu1
  exact ⟨w, H, J, hu2, q i w hw (by rw [List.getElem?_eq_getElem (by omega), e9])⟩
noncomputable def ltLL (a b : List (List Nat)) : Bool := PySem.W.DatumOrd.lt (a.map S) (b.map S)
noncomputable def minLL (x : List (List Nat)) (xs : List (List (List Nat))) : List (List Nat) := xs.foldl (fun b y => if ltLL y b = true then y else b) x
noncomputable def minL (v : List (List (List Nat))) : List (List Nat) := minLL (v.headD []) v.tail
theorem minLL_S : ∀ (xs : List (List (List Nat))) (x : List (List Nat)), PySem.W.minOf (x.map S) (xs.map fun l => l.map S) = (minLL x xs).map S
  | [], x => rfl
  | y :: ys, x => by
    have ih := minLL_S ys (if ltLL y x = true then y else x)
    show List.foldl _ (if PySem.W.DatumOrd.lt (y.map S) (x.map S) = true then y.map S else x.map S) (ys.map fun l => l.map S) = (minLL (if ltLL y x = true then y else x) ys).map S
    have e : (if PySem.W.DatumOrd.lt (y.map S) (x.map S) = true then y.map S else x.map S) = (if ltLL y x = true then y else x).map S := by
      unfold ltLL
      cases PySem.W.DatumOrd.lt (y.map S) (x.map S) <;> rfl
    rw [e]
    exact ih
theorem pyD_LL (l : List (List Nat)) : pyD (.lst (l.map D.str)) = PySem.W.Datum.toD (l.map S) := by
  show PyData.list (pyDs (l.map D.str)) = PyData.list ((l.map S).map PySem.W.Datum.toD)
  rw [pyDs_map, List.map_map]
  rfl
theorem map_S_inj : ∀ {a b : List (List Nat)}, a.map S = b.map S → a = b
  | [], [], _ => rfl
  | [], _ :: _, h => nomatch h
  | _ :: _, [], h => nomatch h
  | x :: xs, y :: ys, h => by
    injection h with h1 h2
    rw [S_inj.mp h1, map_S_inj h2]
section
variable {X : Cx} {Γ : List B} {a : Expr} {pos p : Pos}
theorem ed_minL {v : List (List (List Nat))} (hc : X.calm = true) (hu : X.A.units + 64 < cLine) (hg : Gl X "min") (hm : X.mg "min" = none) (ha : EL X Γ a (v.map fun l => D.lst (l.map D.str))) (hne : v ≠ []) (he : starEach [a] X.env = (false, eval a X.env) :: starEach [] X.env := by exact starEach_ns rfl) (hpl : (backTo pos (starEach [] X.env)).any (·.1) = false := by exact plain_ok rfl) : ED X Γ (.Call (.Name "min" p) [a] [] pos) (.lst ((minL v).map D.str)) := by
  obtain ⟨x, xs, rfl⟩ : ∃ x xs, v = x :: xs := by
    cases v with
    | nil => exact absurd rfl hne
    | cons x xs => exact ⟨x, xs, rfl⟩
  refine ed_of (pe_callB (call_minL hc hu) hg hm (by decide +kernel) (pa_cons pe_w pa_nil he) (by decide) (by decide) he hpl) fun F σ G H s Q q => ha F σ G H s _ fun p vs G1 H1 g1 h1 i1 => ?_
  refine ⟨p, vs, x.map S, xs.map fun l => l.map S, rfl, .inl (.inl h1), ?_, fun i w hw hi => ?_⟩
  · have e : ((x.map S) :: xs.map fun l => l.map S).map PySem.W.Datum.toD = pyDs ((x :: xs).map fun l => D.lst (l.map D.str)) := by
      rw [pyDs_map]
      have : ((x.map S) :: xs.map fun l => l.map S) = (x :: xs).map fun l => l.map S := rfl
      rw [this, List.map_map]
      exact List.map_congr_left fun l _ => (pyD_LL l).symm
    rw [e]
    exact dps_of (fun d v => dp_of g1.s 2 d v) _ _ i1 (by
      rw [List.all_map, List.all_eq_true]
      intro l _
      show (l.map D.str).all (eqk 1) = true
      rw [List.all_map, List.all_eq_true]
      exact fun _ _ => rfl)
  · obtain ⟨d, hd, id⟩ := i1.getV hw
    have hx : ((x :: xs).map fun l => l.map S)[i]? = some ((minLL x xs).map S) := by
      have : ((x.map S) :: xs.map fun l => l.map S) = (x :: xs).map fun l => l.map S := rfl
      rw [this, minLL_S] at hi
      exact hi
    rw [List.getElem?_map] at hx hd
    cases hz : (x :: xs)[i]? with
    | none =>
      rw [hz] at hx
      cases hx
    | some z =>
      rw [hz] at hx hd
      have hx2 : z.map S = (minLL x xs).map S := Option.some.inj hx
      rw [map_S_inj hx2] at hd
      cases hd
      exact q w G1 H1 g1 id
end
end Sd

namespace Sd
open PySem PySem.Spec PyProof.Rows L2
/-! ### data whose lists hold things that are laid, nothing else -/
def isRefD : D → Bool
  | .lst _ => true
  | .tup _ => true
  | .dct _ => true
  | .ins _ _ => true
  | .scr _ => true
  | .fn _ => true
  | .exv _ _ => true
  | _ => false
mutual
def noS : D → Bool
  | .lst xs => noSl xs
  | .tup xs => noSt xs
  | .dct _ => false
  | .ins _ fs => noSf fs
  | .scr _ => false
  | .fn _ => true
  | .exv _ _ => false
  | .non => true
  | .bl _ => true
  | .int _ => true
  | .str _ => true
  | .ty _ => true
def noSl : List D → Bool
  | [] => true
  | x :: xs => isRefD x && noS x && noSl xs
def noSt : List D → Bool
  | [] => true
  | x :: xs => noS x && noSt xs
def noSf : List (Str × D) → Bool
  | [] => true
  | (_, x) :: xs => noS x && noSf xs
end
theorem noSl_map {τ : Type} {enc : τ → D} (h : ∀ x, isRefD (enc x) = true ∧ noS (enc x) = true) : ∀ xs : List τ, noSl (xs.map enc) = true
  | [] => rfl
  | x :: xs => by
    show (isRefD (enc x) && noS (enc x) && noSl (xs.map enc)) = true
    rw [(h x).1, (h x).2, noSl_map h xs]
    rfl
theorem noSt_map {τ : Type} {enc : τ → D} (h : ∀ x, noS (enc x) = true) : ∀ xs : List τ, noSt (xs.map enc) = true
  | [] => rfl
  | x :: xs => by
    show (noS (enc x) && noSt (xs.map enc)) = true
    rw [h x, noSt_map h xs]
    rfl
def isRefV : V → Bool
  | .ref _ => true
  | _ => false
theorem Is.ref {K : PySem.W.Frag} {G : Hp} {v : V} {d : D} (h : Is K G v d) (hd : isRefD d = true) : isRefV v = true := by
  cases h <;> first | rfl | cases hd
/-- the lists that hold things that are laid, and what is no list -/
def restr (G : Hp) : Hp := fun b => match G b with
  | some (.lst vs) => if vs.all isRefV = true then some (.lst vs) else none
  | o => o
theorem restr_lst {G : Hp} {b : Addr} {vs : List V} (h : G b = some (.lst vs)) (hv : vs.all isRefV = true) : restr G b = some (.lst vs) := by
  unfold restr
  rw [h]
  exact if_pos hv
theorem restr_oth {G : Hp} {b : Addr} {u : HO} (h : G b = some u) (n : ∀ vs, u ≠ .lst vs) : restr G b = some u := by
  unfold restr
  rw [h]
  cases u <;> first | rfl | exact absurd rfl (n _)
theorem restr_ex (G : Hp) : Ex (restr G) G := fun b u e => by
  unfold restr at e
  cases hg : G b with
  | none =>
    rw [hg] at e
    cases e
  | some w =>
    rw [hg] at e
    cases w with
    | lst vs =>
      dsimp only at e
      by_cases h : vs.all isRefV = true
      · rw [if_pos h] at e
        exact e
      · rw [if_neg h] at e
        cases e
    | _ => exact e
theorem restr_ref {G : Hp} {b : Addr} {vs : List V} (h : restr G b = some (.lst vs)) : vs.all isRefV = true := by
  have hg := restr_ex G b _ h
  unfold restr at h
  rw [hg] at h
  dsimp only at h
  by_cases hv : vs.all isRefV = true
  · exact hv
  · rw [if_neg hv] at h
    cases h
theorem restr_t {K : PySem.W.Frag} {G : Hp} {a : Addr} {xs : List V} (h : SqT K G a xs) : SqT K (restr G) a xs := by
  rcases h with (h | ⟨o, h⟩) | h
  · exact .inl (.inl (restr_oth h (fun _ e => nomatch e)))
  · exact .inl (.inr ⟨o, restr_oth h (fun _ e => nomatch e)⟩)
  · exact .inr h
section
variable {K : PySem.W.Frag} {G : Hp}
theorem refs_all : ∀ {vs : List V} {ds : List D}, IsAll K G vs ds → noSl ds = true → vs.all isRefV = true
  | _, _, .nil, _ => rfl
  | _, _, @IsAll.cons _ _ v vs d ds h1 h2, h => by
    have h : (isRefD d && noS d && noSl ds) = true := h
    rw [Bool.and_eq_true, Bool.and_eq_true] at h
    rw [List.all_cons, h1.ref h.1.1, refs_all h2 h.2]
    rfl
mutual
theorem Is.restr : ∀ (d : D) (v : V), Is K G v d → noS d = true → Is K (restr G) v d
  | .non, _, h, _ => by cases h; exact .non
  | .bl b, _, h, _ => by cases h; exact .bl b
  | .int i, _, h, _ => by cases h; exact .int i
  | .str l, _, h, _ => by cases h with | str _ k => exact .str l k
  | .ty n, _, h, _ => by cases h; exact .ty n
  | .lst ds, _, h, n => by cases h with | lst h1 h2 => exact .lst (restr_lst h1 (refs_all h2 n)) (IsAll.restrL ds _ h2 n)
  | .tup ds, _, h, n => by cases h with | tup h1 h2 => exact .tup (restr_t h1) (IsAll.restrT ds _ h2 n)
  | .dct ds, _, h, n => nomatch n
  | .ins C ds, _, h, n => by cases h with | ins h0 h1 h2 => exact .ins h0 (restr_oth h1 (fun _ e => nomatch e)) (IsFs.restr ds _ h2 n)
  | .scr ns, _, h, n => nomatch n
  | .fn n, _, h, _ => by cases h with | fn h1 => exact .fn h1
  | .exv n ds, _, h, m => nomatch m
theorem IsAll.restrL : ∀ (ds : List D) (vs : List V), IsAll K G vs ds → noSl ds = true → IsAll K (Sd.restr G) vs ds
  | [], _, h, _ => by cases h; exact .nil
  | d :: ds, _, h, n => by
    have n : (isRefD d && noS d && noSl ds) = true := n
    rw [Bool.and_eq_true, Bool.and_eq_true] at n
    cases h with | cons h1 h2 => exact .cons (Is.restr d _ h1 n.1.2) (IsAll.restrL ds _ h2 n.2)
theorem IsAll.restrT : ∀ (ds : List D) (vs : List V), IsAll K G vs ds → noSt ds = true → IsAll K (Sd.restr G) vs ds
  | [], _, h, _ => by cases h; exact .nil
  | d :: ds, _, h, n => by
    have n : (noS d && noSt ds) = true := n
    rw [Bool.and_eq_true] at n
    cases h with | cons h1 h2 => exact .cons (Is.restr d _ h1 n.1) (IsAll.restrT ds _ h2 n.2)
theorem IsFs.restr : ∀ (ds : List (Str × D)) (vs : List (Str × V)), IsFs K G vs ds → noSf ds = true → IsFs K (Sd.restr G) vs ds
  | [], _, h, _ => by cases h; exact .nil
  | (k, d) :: ds, _, h, n => by
    have n : (noS d && noSf ds) = true := n
    rw [Bool.and_eq_true] at n
    cases h with | cons h1 h2 => exact .cons (Is.restr d _ h1 n.1) (IsFs.restr ds _ h2 n.2)
end
/-- slots of nothing, or of such data -/
inductive NoS : List B → Prop
  | nil : NoS []
  | un {Γ : List B} : NoS Γ → NoS (.un :: Γ)
  | d {x : D} {Γ : List B} : noS x = true → NoS Γ → NoS (.d x :: Γ)
theorem NoS.at : ∀ {Γ : List B} {i : Nat} {b : B}, NoS Γ → Γ[i]? = some b → b = .un ∨ ∃ x, b = .d x ∧ noS x = true
  | _, 0, _, .un _, e => .inl (Option.some.inj e).symm
  | _, 0, _, .d h _, e => .inr ⟨_, (Option.some.inj e).symm, h⟩
  | _, i + 1, _, .un t, e => t.at (i := i) e
  | _, i + 1, _, .d _ t, e => t.at (i := i) e
theorem Stt.restr {F : Hp} {Γ : List B} {σ : L2.St} {H : Hp} (s : Stt K F Γ σ G H) (h : NoS Γ) : Stt K F Γ σ (Sd.restr G) H := by
  have no : ∀ {i : Nat} {b : B}, Γ[i]? = some b → b ≠ .un → (∀ x, b ≠ .d x) → False := fun {i b} e h1 h2 => by
    rcases h.at e with z | ⟨x, z, _⟩
    · exact h1 z
    · exact h2 x z
  refine ⟨s.len, (restr_ex G).trans s.sub, fun i x e => ?_, fun i o pa e => (no e (fun z => nomatch z) (fun _ z => nomatch z)).elim, fun i j p o o' pa pb e1 => (no e1 (fun z => nomatch z) (fun _ z => nomatch z)).elim, fun i xs e => (no e (fun z => nomatch z) (fun _ z => nomatch z)).elim, fun i a d fs e => (no e (fun z => nomatch z) (fun _ z => nomatch z)).elim, .noT fun i x e => no e (fun z => nomatch z) (fun _ z => nomatch z)⟩
  obtain ⟨v, h1, h2⟩ := s.dat i x e
  rcases h.at e with z | ⟨y, z, hy⟩
  · cases z
  · cases z
    exact ⟨v, h1, Is.restr x v h2 hy⟩
end
theorem atI_zero {α : Type} {x : α} {xs : List α} : atI (x :: xs) 0 = some x := by
  unfold atI ixN
  rw [if_pos (by omega), if_pos (by rw [List.length_cons]; omega)]
  rfl
/-! ### a list of new lists of texts -/
abbrev encL : List (List Nat) → D := fun l => D.lst (l.map D.str)
inductive JT (H0 H : Hp) : List Addr → List (List (List Nat)) → Prop
  | nil : JT H0 H [] []
  | cons {q : Addr} {l : List (List Nat)} {qs : List Addr} {v : List (List (List Nat))} : H0 q = none → H q = some (.lst (l.map fun c => V.str (S c))) → (∀ c ∈ l, StrOk c) → JT H0 H qs v → JT H0 H (q :: qs) (l :: v)
section
variable {K : PySem.W.Frag} {G H0 H H' G' : Hp}
theorem JT.up (e : ∀ b u, H b = some u → H' b = some u) : ∀ {qs : List Addr} {v : List (List (List Nat))}, JT H0 H qs v → JT H0 H' qs v
  | _, _, .nil => .nil
  | _, _, .cons h1 h2 h3 t => .cons h1 (e _ _ h2) h3 (t.up e)
theorem JT.none : ∀ {qs : List Addr} {v : List (List (List Nat))}, JT H0 H qs v → ∀ q ∈ qs, H0 q = none
  | _, _, .nil, q, h => nomatch h
  | _, _, .cons h1 _ _ t, q, h => by
    rcases List.mem_cons.mp h with e | h
    · rw [e]
      exact h1
    · exact t.none q h
theorem JT.here : ∀ {qs : List Addr} {v : List (List (List Nat))}, JT H0 H qs v → ∀ q ∈ qs, ∃ l ∈ v, H q = some (.lst (l.map fun c => V.str (S c)))
  | _, _, .nil, q, h => nomatch h
  | _, _, .cons _ h2 _ t, q, h => by
    rcases List.mem_cons.mp h with e | h
    · rw [e]
      exact ⟨_, List.mem_cons_self, h2⟩
    · obtain ⟨l, h3, h4⟩ := t.here q h
      exact ⟨l, List.mem_cons_of_mem _ h3, h4⟩
theorem JT.isAll (K : PySem.W.Frag) : ∀ {qs : List Addr} {v : List (List (List Nat))}, JT H0 H qs v → (∀ q ∈ qs, G q = H q) → IsAll K G (qs.map V.ref) (v.map encL)
  | _, _, .nil, _ => .nil
  | _, _, .cons _ h2 h3 t, hg => .cons (.lst (by rw [hg _ List.mem_cons_self]; exact h2) (IsAll.ofStrs _ h3)) (t.isAll K fun q hq => hg q (List.mem_cons_of_mem _ hq))
theorem strs_inj : ∀ {a b : List (List Nat)}, a.map (fun c => V.str (S c)) = b.map (fun c => V.str (S c)) → a = b
  | [], [], _ => rfl
  | [], _ :: _, h => nomatch h
  | _ :: _, [], h => nomatch h
  | x :: xs, y :: ys, h => by
    injection h with h1 h2
    injection h1 with h1
    rw [S_inj.mp h1, strs_inj h2]
theorem jt_of (g : Grow (restr G) H0 G' H) : ∀ (v : List (List (List Nat))) (vs : List V), IsAll K G' vs (v.map encL) → (∀ l ∈ v, l ≠ []) → ∃ qs, vs = qs.map V.ref ∧ JT H0 H qs v
  | [], _, h, _ => by
    cases h
    exact ⟨[], rfl, .nil⟩
  | l :: v, _, h, hne => by
    cases h with
    | cons h1 h2 =>
      obtain ⟨qs, rfl, t⟩ := jt_of g v _ h2 fun l hl => hne l (List.mem_cons_of_mem _ hl)
      cases h1 with
      | @lst q ws _ k1 k2 =>
        have e := k2.strs
        have ok := k2.strOk
        subst e
        refine ⟨q :: qs, rfl, .cons ?_ (g.s _ _ k1) ok t⟩
        cases hq : H0 q with
        | none => rfl
        | some o =>
          cases hr : restr G q with
          | none =>
            have := g.f q o hq hr
            rw [k1] at this
            cases this
          | some u =>
            have e1 := g.g q u hr
            rw [k1] at e1
            cases e1
            have hall := restr_ref hr
            cases l with
            | nil => exact absurd rfl (hne _ List.mem_cons_self)
            | cons c l =>
              rw [List.map_cons, List.all_cons] at hall
              cases hall
end
section
variable {X : Cx} {E : XK} {Γ Γ0 : List B} {S T R : Type} {Γs : S → List B} {Γb : T → List B} {f : R → Res} {A rest : List Stmt} {pos pos2 pos3 py py2 cpos apos spos zpos : Pos} {lv : Nat} {N : List Str} {sc : Scope} {y : Str} {e c ae : Expr} {jj : Nat}
theorem c_setJ (i : Nat) {r : Out (List (List (List Nat)))} {l : List Nat} (P : List (List (List Nat)) → Prop) (b : List (List (List Nat)) → Bool) (m1 : List (List (List Nat)) → Co Empty T R) (k2 : List (List (List Nat)) → Co S T R)
    (hX : XOk lv N sc X) (hn : N[i]? = some y) (hl : Loc sc y) (hv : Vis sc y) (hi : i < Γ.length) (hw : Wk Γ Γ0) (h0 : NoS Γ0) (he : ER X E Γ0 e (rsOf (fun v => .o (.lst (v.map encL))) r))
    (hc : ∀ v, P v → ET X (Γ.set i (.d (.lst (v.map encL)))) c (b v)) (hA : ∀ v, P v → BC X E (Γ.set i (.d (.lst (v.map encL)))) A (fun s : Empty => nomatch s) Γb f (m1 v)) (ha : ED X (Γ.set i .un) ae (.str l)) (hr : ∀ w, BC X E (Γ.set i (.own (.lst (w.map encL)))) rest Γs Γb f (k2 w))
    (hs : swapsWith e (some (.Name y py)) pos.line X.env = pure false := by exact sw_ns rfl) (hs3 : swapsWith (.Call (.Attribute (.Subscript (.Name y py2) (.Constant (.int 0) jj zpos) spos) "append" apos) [ae] [] cpos) none pos3.line X.env = pure false := by exact sw_ns rfl)
    (hbase : attributeBase (.Subscript (.Name y py2) (.Constant (.int 0) jj zpos) spos) "append" X.env (eval (.Subscript (.Name y py2) (.Constant (.int 0) jj zpos) spos) X.env) = eval (.Subscript (.Name y py2) (.Constant (.int 0) jj zpos) spos) X.env := by exact ab_ns rfl) (hline : (apos.endLine == cpos.line) = true := by rfl)
    (hfew : ((backTo cpos (starEach (ae :: []) X.env)).all (fun x => !x.1) && (backToKw cpos (keywordEach [] X.env)).all (fun x => x.1.isSome) && decide ((ae :: ([] : List Expr)).length + ([] : List Keyword).length + (if ([] : List Keyword).isEmpty then 0 else 1) < 30)) = true := by exact few_ok rfl)
    (hst : starEach (ae :: []) X.env = (false, eval ae X.env) :: starEach [] X.env := by exact starEach_ns rfl) (hplain : (backTo cpos (starEach [] X.env)).any (·.1) = false := by exact plain_ok rfl) (hd : (y == ("__debug__" : Str)) = false := by decide) (hcd : (y == ("__classdict__" : Str)) = false := by decide) :
    BC X E Γ (.Assign [.Name y py] e pos :: .If c A [] pos2 :: .Expr (.Call (.Attribute (.Subscript (.Name y py2) (.Constant (.int 0) jj zpos) spos) "append" apos) [ae] [] cpos) pos3 :: rest) Γs Γb f
      (chk (r.IsOk ∧ (∀ l ∈ r.get [], l ≠ []) ∧ r.get [] ≠ [] ∧ (r.get []).Nodup ∧ (∀ l ∈ r.get [], l.length < sizeLine) ∧ P (r.get [])) (if b (r.get []) = true then (m1 (r.get [])).up else bnd (((r.get []).headD [] ++ [l]) :: (r.get []).tail) k2)) := fun F G0 σ G H D s gr post => by
  by_cases hp : r.IsOk ∧ (∀ l ∈ r.get [], l ≠ []) ∧ r.get [] ≠ [] ∧ (r.get []).Nodup ∧ (∀ l ∈ r.get [], l.length < sizeLine) ∧ P (r.get [])
  case neg =>
    rw [chk_neg hp] at post
    exact (show False from post).elim
  rw [chk_pos hp] at post
  obtain ⟨hok, hne, hnil, hnd, hlen, hP⟩ := hp
  cases r with
  | stk => exact hok.elim
  | err x => exact hok.elim
  | ok v =>
    change ∀ l ∈ v, l ≠ [] at hne
    change v ≠ [] at hnil
    change v.Nodup at hnd
    change ∀ l ∈ v, l.length < sizeLine at hlen
    change P v at hP
    have post : PostC X.K F G0 G E D Γs Γb (Co.ctl f (if b v = true then (m1 v).up else bnd ((v.headD [] ++ [l]) :: v.tail) k2)) := post
    have s0 := (s.wk hw).restr h0
    refine w_cons (ps_set hX.nd (hX.nm hn) (hX.lc hl) pe_w hs (.inl (hX.fn y))) (he F σ (restr G) H s0 _ ?_)
    intro p u G1 H1 g1 hpu hpn hpH ho
    obtain ⟨vs, rfl, iv⟩ := ho.lst
    obtain ⟨qs, rfl, jt⟩ := jt_of g1 v vs iv hne
    have hps : ∀ q ∈ p :: qs, H q = none := fun q hq => by
      rcases List.mem_cons.mp hq with e | hq
      · rw [e]
        exact hpH
      · exact jt.none q hq
    have hGn : ∀ q ∈ p :: qs, G q = none := fun q hq => Evl.fresh_back s.sub (hps q hq)
    have out : ∀ {b : Addr} {o : HO}, H b = some o → b ∉ p :: qs := fun {b o} e hb => by
      rw [hps b hb] at e
      cases e
    have gG : Grow G H G H1 := ⟨Evl.Ex.refl _, g1.h, s.sub.trans g1.h, fun _ _ _ n => n⟩
    have su : Stt X.K F (Γ.set i .un) (σ.set i (some (.ref p))) G H := s.unset i _
    have gb : Grow G H (frzs G H1 (p :: qs)) H1 := ⟨frzs_ex hGn, g1.h, fun b u e => by
      by_cases hb : b ∈ p :: qs
      · rw [frzs_in hb] at e
        exact e
      · rw [frzs_out hb] at e
        exact gG.s b u e, fun b o e n => by
      rw [frzs_out (out e)]
      exact n⟩
    have sb : Stt X.K F (Γ.set i (.d (.lst (v.map encL)))) (σ.set i (some (.ref p))) (frzs G H1 (p :: qs)) H1 := by
      have h1 := (su.grow gb).set i (v := .ref p) (x := .lst (v.map encL)) (.lst (by rw [frzs_in List.mem_cons_self]; exact hpu) (jt.isAll X.K fun q hq => frzs_in (List.mem_cons_of_mem _ hq)))
      rw [List.set_set, List.set_set] at h1
      exact h1
    have hsl : (σ.set i (some (.ref p)))[i]? = some (some (.ref p)) := List.getElem?_set_self (by rw [s.len]; exact hi)
    refine w_cons (ps_if pt_w pss_w pss_nil) (hc v hP F _ _ H1 sb _ fun G2 H2 g2 => ?_)
    cases hb : b v with
    | true =>
      rw [hb, if_pos rfl] at post
      rw [if_pos rfl]
      refine hA v hP F G0 _ G2 H2 _ (sb.grow g2) (gr.trans (gb.trans g2)) ?_
      have po := PostC.up post (gb.trans g2).g
      rw [ctl_up] at po
      cases hm : Co.ctl f (m1 v) with
      | go s => exact nomatch s
      | brk b =>
        rw [hm] at po
        exact po
      | ret r =>
        rw [hm] at po
        exact po
    | false =>
      rw [hb, if_neg Bool.false_ne_true] at post
      rw [if_neg Bool.false_ne_true]
      have g3 : Grow G H1 (frzs G2 (fun _ => none) (p :: qs)) H2 := g2.lends hGn
      have g3' := gG.trans g3
      have s3 : Stt X.K F (Γ.set i .un) (σ.set i (some (.ref p))) (frzs G2 (fun _ => none) (p :: qs)) H2 := su.grow g3'
      have jt2 := jt.up g2.h
      obtain ⟨l0, vt, rfl⟩ : ∃ l0 vt, v = l0 :: vt := by
        cases v with
        | nil => exact absurd rfl hnil
        | cons l0 vt => exact ⟨l0, vt, rfl⟩
      cases jt2 with
      | @cons q0 _ qt _ n0 hq0 ok0 jt2 =>
        have hp2 := g2.h _ _ hpu
        refine w_cons (ps_expr (pe_bm PySem.F.plainAttrs_list PySem.F.slot_list_append PySem.F.type_list_append mt_append (pe_ix ix_list (pe_var (hX.nm hn) (hX.vs hv) hd hcd) pe_int (ix_ns rfl)) (pa_cons pe_w pa_nil hst) hbase hfew hline hst hplain) hs3) ?_
        refine ⟨_, hsl, p, _, 0, .ref q0, rfl, rfl, .inl (.inl hp2), atI_zero, .inl ⟨rfl, _, .inl (.inl hq0)⟩, ha F _ _ H2 s3 _ fun w G5 H5 g5 i5 => ?_⟩
        cases i5 with
        | str _ okl =>
          have hq5 := g5.h _ _ hq0
          refine ⟨q0, _, _, rfl, rfl, hq5, by rw [List.length_map]; exact hlen l0 List.mem_cons_self, ?_⟩
          have g6 := g3'.trans g5
          have nG5 : ∀ q ∈ p :: q0 :: qt, G5 q = none := fun q hq => by
            obtain ⟨o, ho⟩ : ∃ o, H2 q = some o := by
              rcases List.mem_cons.mp hq with e | hq
              · rw [e]
                exact ⟨_, hp2⟩
              · obtain ⟨l', _, h'⟩ := (JT.cons n0 hq0 ok0 jt2).here q hq
                exact ⟨_, h'⟩
            exact g5.f q o ho (frzs_in hq)
          have hpq : p ≠ q0 := fun z => by
            rw [z, hq0] at hp2
            have := Option.some.inj hp2
            injection this with this
            cases l0 with
            | nil => exact hne _ List.mem_cons_self rfl
            | cons c0 l0 =>
              rw [List.map_cons, List.map_cons] at this
              injection this with e1 _
              cases e1
          have hne0 : ∀ q ∈ qt, q ≠ q0 := fun q hq z => by
            obtain ⟨l', hl', h'⟩ := jt2.here q hq
            rw [z, hq0] at h'
            have := Option.some.inj h'
            injection this with this
            have := strs_inj this
            exact (List.nodup_cons.mp hnd).1 (by rw [this]; exact hl')
          -- behind it
          have jt6 : JT H (upd H5 q0 (.lst (l0.map (fun c => V.str (Sd.S c)) ++ [V.str (Sd.S l)]))) (q0 :: qt) ((l0 ++ [l]) :: vt) := by
            refine .cons n0 ?_ (fun c hc => ?_) ?_
            · rw [upd_same, List.map_append]
              rfl
            · rcases List.mem_append.mp hc with hc | hc
              · exact ok0 c hc
              · rw [List.mem_singleton.mp hc]
                exact okl
            · have : ∀ {qs : List Addr} {v : List (List (List Nat))}, JT H H5 qs v → (∀ q ∈ qs, q ≠ q0) → JT H (upd H5 q0 (.lst (l0.map (fun c => V.str (Sd.S c)) ++ [V.str (Sd.S l)]))) qs v := by
                intro qs v h
                induction h with
                | nil => exact fun _ => .nil
                | cons h1 h2 h3 _ ih => exact fun hq => .cons h1 (by rw [upd_ne (hq _ List.mem_cons_self)]; exact h2) h3 (ih fun q hh => hq q (List.mem_cons_of_mem _ hh))
              exact this (jt2.up g5.h) hne0
          have hq0H : ∀ {b : Addr} {o : HO}, H b = some o → b ≠ q0 := fun {b o} e z => by
            rw [z, n0] at e
            cases e
          have g7 : Grow G H (frzs G5 (upd H5 q0 (.lst (l0.map (fun c => V.str (Sd.S c)) ++ [V.str (Sd.S l)]))) (q0 :: qt)) (upd H5 q0 (.lst (l0.map (fun c => V.str (Sd.S c)) ++ [V.str (Sd.S l)]))) := by
            have o : ∀ {b : Addr} {u : HO}, H b = some u → b ∉ q0 :: qt := fun {b u} e hb => out e (List.mem_cons_of_mem _ hb)
            refine ⟨fun b u e => ?_, fun b u e => ?_, fun b u e => ?_, fun b u e n => ?_⟩
            · rw [frzs_out (o (s.sub b u e))]
              exact g6.g b u e
            · rw [upd_ne (hq0H e)]
              exact g6.h b u e
            · by_cases hb : b ∈ q0 :: qt
              · rw [frzs_in hb] at e
                exact e
              · rw [frzs_out hb] at e
                rw [upd_ne fun z => hb (by rw [z]; exact List.mem_cons_self)]
                exact g5.s b u e
            · rw [frzs_out (o e)]
              exact g6.f b u e n
          have hnp : p ∉ q0 :: qt := fun h => by
            rcases List.mem_cons.mp h with e | h
            · exact hpq e
            · obtain ⟨l', _, h'⟩ := jt2.here p h
              rw [hp2] at h'
              have := Option.some.inj h'
              injection this with this
              cases l' with
              | nil => cases this
              | cons c0 l1 =>
                rw [List.map_cons, List.map_cons] at this
                injection this with e1 _
                cases e1
          have s7 := (su.grow g7).setO (o := .lst (((l0 ++ [l]) :: vt).map encL)) (u := .lst ((q0 :: qt).map V.ref)) i (p := p) (by rw [upd_ne hpq]; exact g5.h _ _ hp2) (by rw [frzs_out hnp]; exact nG5 p List.mem_cons_self) (Evl.fresh_back gr.h hpH) (jt6.isAll X.K fun q hq => frzs_in hq) (fun j o' pa hj e z => su.fresh hpH e z) fun j x p' qs' hj e a => su.tre.fresh g7 hpH e a
          rw [List.set_set, List.set_set] at s7
          exact hr ((l0 ++ [l]) :: vt) F G0 _ _ _ D s7 (gr.trans g7) (PostC.up post g7.g)
end
end Sd

namespace Sd
open PySem PySem.Spec PyProof.Rows L2
/-! ### exceptions as values -/
theorem exV_o {C : Addr} {d : Option Addr} {a : Addr} : ExvO C d a (exV C d a) := ⟨_, rfl, fun _ h => h⟩
theorem exO_o {C a : Addr} : ExvO C none a (ExO (.ref C) a) := ⟨_, rfl, fun _ ⟨oe, vs, h1, h2, h3, _⟩ => ⟨oe, vs, h1, h2, h3⟩⟩
/-- what makes an exception is a value -/
theorem pe_mkv {X : Cx} {e : Expr} {t : L2.St → Hp → XK → Prop} (he : PMk X e t) : PE X e (fun σ H Q => t σ H fun cls d H1 => ∃ C, cls = .ref C ∧ ∀ a, H1 a = none → Q (.ref a) (upd H1 a (exV C d a))) := by
  refine ⟨fun pins s σ H Q I h => wpAny_mono (he pins s σ H _ I h) (fun u s' hu => ?_) fun _ _ x => x⟩
  obtain ⟨a, oe, vs, sI, H', cls, d, rfl, J, k, hne, ha, hz, hd, h1, na, os, ag, r, q⟩ := hu
  obtain ⟨C, rfl, q⟩ := q
  have new : ObjOk X.prog X.w (upd H' a (exV C d a)) s'.heap a (exV C d a) := ⟨⟨oe, vs, ha, hz, hd⟩, ⟨oe, ha⟩, fun h1 h2 ⟨o, v, z, r⟩ kk => ⟨o, v, kk o z, r⟩⟩
  have J2 : Inv X pins σ (upd H' a (exV C d a)) { sI with heap := s'.heap, gens := s'.gens, drawn := s'.drawn, toks := s'.toks } :=
    J.call (ch := []) (Un.laidN k hne na) (J.hok.laidN k na new) ag (fun _ z => nomatch z)
  have e : s' = { sI with heap := s'.heap, gens := s'.gens, drawn := s'.drawn, toks := s'.toks } := by
    cases s'
    cases sI
    cases os
    rfl
  rw [e]
  exact ⟨.ref a, _, J2, rfl, q a na⟩
section
variable {X : Cx} {Γ : List B} {pos p cpos p2 : Pos} {lv lv' : Nat} {N : List Str} {sc : Scope} {n f : Str} {A : Type} {enc : A → List AK} {flds : A → List (Str × D)} {e a b : Expr} {es : List Expr} {fs : List (Str × D)} {c : Str} {m : Str → Option Bool} {mf : Str → Bool}
/-- C(e, ..), C a class of exceptions with an __init__ of its own -/
theorem ed_mkX (a : A) (hk : MkXX X n lv (spX X.K n enc flds)) (hr : Room (lv + 1) X.A) (hg : Gl X n) (ha : EA2 X Γ (e :: es) (enc a)) (hl : (enc a).length ≤ 900) (hnf : flds a ≠ [])
    (hdb : (n == ("__debug__" : Str)) = false := by decide) (he : starEach (e :: es) X.env = (false, eval e X.env) :: starEach es X.env := by exact starEach_ns rfl) (hpl : (backTo cpos (starEach es X.env)).any (·.1) = false := by exact plain_ok rfl) :
    ED X Γ (.Call (.Name n p) (e :: es) [] cpos) (.exv n (flds a)) := by
  obtain ⟨C, fI, fd, ps, h1, hC, h2, h3, h4, h5⟩ := hk.ex
  refine ed_of (pe_mkv (pmk_oex (CX := L2.CX X.prog X.w) hC.ox h2 h3 h4 hr h5 .nil passL hg h1 pa_w hdb he hpl)) fun F σ G H s Q q => ha F σ G H s _ fun vs G1 H1 g1 i1 => ?_
  refine ⟨by rw [i1.len]; omega, fun x hx => ?_⟩
  rw [List.append_nil]
  have gx : G1 x = none := Evl.fresh_back g1.s hx
  have up : ∀ b o, H1 b = some o → upd H1 x (exo x C none) b = some o := fun b o eb => by
    rw [upd_ne (ne_of_none eb hx)]
    exact eb
  refine ⟨x, C, vs, a, G1, rfl, hC, upd_same, gx, fun b o eb => up b o (g1.s b o eb), ?_, fun G' H' p fs g hp hx' hp' ne gx' gp' hi => ⟨rfl, p, fs, hx', hp', ?_, ?_⟩⟩
  · clear q
    generalize enc a = as at i1
    induction i1 with
    | nil => exact .nil
    | d h _ ih => exact .d h ih
    | l h1 h2 _ ih => exact .l (up _ _ h1) h2 ih
  · rw [upd_ne ne] at hp
    exact hp
  · have hp1 : H1 p = none := by
      rw [upd_ne ne] at hp
      exact hp
    have ex3 : ∀ b o, G' b = some o → upd (del H' x) p (.xd fs) b = some o := fun b o eb => by
      have nb : b ≠ p := ne_of_none eb gp'
      have nx : b ≠ x := ne_of_none eb gx'
      rw [upd_ne nb, del_ne nx]
      have z := g.s b o eb
      rw [xl_ne nx fun w => nb (Option.some.inj w).symm] at z
      exact z
    have g3 : Grow G1 H1 (upd G' p (.xd fs)) (upd (del H' x) p (.xd fs)) := by
      refine ⟨g.g.trans (Evl.Ex.new gp'), fun b o eb => ?_, fun b o eb => ?_, fun b o eb nb => ?_⟩
      · have nb : b ≠ p := ne_of_none eb hp1
        have nx : b ≠ x := ne_of_none eb hx
        rw [upd_ne nb, del_ne nx]
        have z := g.h b o (by rw [xl_ne (d := none) nx (by simp), upd_ne nx]; exact eb)
        rw [xl_ne nx fun w => nb (Option.some.inj w).symm] at z
        exact z
      · by_cases hb : b = p
        · rw [hb, upd_same] at eb ⊢
          exact eb
        · rw [upd_ne hb] at eb
          exact ex3 b o eb
      · have nb' : b ≠ p := ne_of_none eb hp1
        have nx : b ≠ x := ne_of_none eb hx
        rw [upd_ne nb']
        exact g.f b o (by rw [xl_ne (d := none) nx (by simp), upd_ne nx]; exact eb) nb
    refine ⟨C, rfl, fun a2 ha2 => q (.ref a2) _ _ ((g1.trans g3).trans (Grow.new g3.s ha2)) (.exv hC.nm upd_same exV_o (fun _ => ⟨p, rfl, ?_⟩) (fun z => absurd z hnf) (IsFs.mono ((Evl.Ex.new gp').trans (Evl.Ex.new (Evl.fresh_back g3.s ha2))) _ _ hi))⟩
    have npa : p ≠ a2 := fun z => by
      rw [← z, upd_same] at ha2
      cases ha2
    rw [upd_ne npa, upd_same]
/-- C(e), C without one -/
theorem ed_mkX0 {d : D} (hc : ExC X.K X.mg n) (hg : Gl X n) (ha : ED X Γ e d) (hdb : (n == ("__debug__" : Str)) = false := by decide) (he : starEach [e] X.env = (false, eval e X.env) :: starEach [] X.env := by exact starEach_ns rfl) : ED X Γ (.Call (.Name n p) [e] [] cpos) (.exv n []) := by
  obtain ⟨C, h1, h2, h3, h4, h5, h6⟩ := hc.ex
  refine ed_of (pe_exc1 PySem.F.excBase_ValueError h3 h1 h4 hg pe_w he hdb) fun F σ G H s Q q => ha F σ G H s _ fun v G1 H1 g1 _ a2 ha2 => ?_
  exact q (.ref a2) _ _ (g1.trans (Grow.new g1.s ha2)) (.exv (xs := []) h2 upd_same exO_o (fun z => absurd rfl z) (fun _ => rfl) .nil)
/-- isinstance(e, T) -/
def rIsV (K : PySem.W.Frag) : List V → Hp → VK → Prop := fun xs H Q => ∃ (a C : Addr) (d : Option Addr) (u : HO) (c : V) (cv : Value) (b : Bool), xs = [.ref a, c] ∧ H a = some u ∧ ExvO C d a u ∧ ExcC K C ∧ (∀ u, RelV c u → u = cv) ∧ PySem.W.kitOne K (.ref C) cv = some b ∧ (d = none ∨ ∃ p fs, d = some p ∧ H p = some (.xd fs)) ∧ Q (.bl b) H
theorem call_isV {X : Cx} : CallR X (.builtin "isinstance") (rIsV X.K) := by
  intro pins s σ H xs us Q I r h
  obtain ⟨a, C, d, u, c, cv, b, rfl, hu, ⟨φ, rfl, hφ⟩, T, hcv, e, hd, q⟩ := h
  obtain ⟨u1, u2, rfl, rx, rt⟩ := vals2 r
  cases rx
  have ec := hcv _ rt
  subst ec
  obtain ⟨k1, _, _⟩ := I.hok a _ hu
  obtain ⟨oe, vs, hget, hz, hv⟩ := hφ _ k1
  have hcl : (PySem.W.clsIn X.K C).isSome = true := by
    have z := T.hd
    unfold PySem.W.hasDictIn at z
    cases q : PySem.W.clsIn X.K C with
    | none =>
      rw [q] at z
      cases z
    | some _ => rfl
  have J : ∃ od, PySem.W.InstAt s.heap a oe C od := by
    obtain ⟨oc, od, oda, osl⟩ := oe
    obtain ⟨h1, h2⟩ := hz
    dsimp only at h1 h2 hv
    subst h1 h2 hv
    rcases hd with hd | ⟨p, fs, hd, hp⟩
    · subst hd
      exact ⟨none, hget, rfl, rfl, trivial⟩
    · subst hd
      obtain ⟨o, ho⟩ := objOk_get (I.hok p _ hp)
      exact ⟨some o, hget, rfl, rfl, ho⟩
  obtain ⟨od, J⟩ := J
  exact PySem.W.kia_one (PySem.W.kitx_exc (od := od) hcl T.hg T.hk T.hs T.ha T.hn T.ht T.hm) I.kIn J e (fun z => nomatch z) fun tk => ⟨.bl b, H, I.kept (t' := tk) fun _ _ z => z, rfl, q⟩
theorem ed_isV (hg : Gl X "isinstance") (hm : X.mg "isinstance" = none) (ha : ED X Γ a (.exv n fs)) (hgc : Gl X c) (hT : ExIC X.K X.mg c m) (hr : (m n).isSome = true) (hdb : (c == ("__debug__" : Str)) = false := by decide)
    (hst : starEach [a, .Name c p2] X.env = (false, eval a X.env) :: starEach [.Name c p2] X.env := by exact starEach_ns rfl) : ED X Γ (.Call (.Name "isinstance" p) [a, .Name c p2] [] pos) (.bl ((m n).getD false)) := by
  obtain ⟨D', hD, hT⟩ := hT.ex
  obtain ⟨r, hr⟩ := Option.isSome_iff_exists.mp hr
  rw [hr]
  refine ed_of (pe_callB call_isV hg hm (by decide +kernel) (pa_cons pe_w (pa_cons (pe_glob (v := .ref D') hgc hD rfl hdb) pa_nil (starEach_ns rfl)) hst) (by decide) (by decide) hst (plain_ok rfl)) fun F σ G H s Q q => ha F σ G H s _ fun v G1 H1 g1 i1 => ?_
  cases i1 with
  | @exv a C d u _ xs _ h0 h1 hu h2 h3 h4 =>
    obtain ⟨C', eC, k1, k2⟩ := hT.ex _ _ _ hr h0
    cases eC
    refine ⟨_, C, d, u, _, _, r, rfl, g1.s _ _ h1, hu, k1, fun _ ru => ru, k2, ?_, q _ G1 H1 g1 (.bl r)⟩
    cases hfs : fs with
    | nil => exact .inl (h3 hfs)
    | cons z zs =>
      obtain ⟨p, e1, e2⟩ := h2 (by rw [hfs]; simp)
      exact .inr ⟨p, xs, e1, g1.s _ _ e2⟩
theorem ed_isVB {t : String} (hg : Gl X "isinstance") (hm : X.mg "isinstance" = none) (ha : ED X Γ a (.exv n fs)) (hb : ED X Γ b (.ty t)) (hT : ExI X.K (.type t) m) (hr : (m n).isSome = true)
    (hst : starEach [a, b] X.env = (false, eval a X.env) :: starEach [b] X.env := by exact starEach_ns rfl) (hst2 : starEach [b] X.env = (false, eval b X.env) :: starEach [] X.env := by exact starEach_ns rfl) (hpl : (backTo pos (starEach [b] X.env)).any (·.1) = false := by exact plain_ok rfl) : ED X Γ (.Call (.Name "isinstance" p) [a, b] [] pos) (.bl ((m n).getD false)) := by
  obtain ⟨r, hr⟩ := Option.isSome_iff_exists.mp hr
  rw [hr]
  refine ed_of (pe_callB call_isV hg hm (by decide +kernel) (pa_cons pe_w (pa_cons pe_w pa_nil hst2) hst) (by decide) (by decide) hst hpl) fun F σ G H s Q q => ha F σ G H s _ fun v G1 H1 g1 i1 => hb F σ G1 H1 (s.grow g1) _ fun w G2 H2 g2 i2 => ?_
  cases i2
  cases i1 with
  | @exv a C d u _ xs _ h0 h1 hu h2 h3 h4 =>
    obtain ⟨C', eC, k1, k2⟩ := hT.ex _ _ _ hr h0
    cases eC
    refine ⟨_, C, d, u, _, _, r, rfl, g2.h _ _ (g1.s _ _ h1), hu, k1, fun _ ru => ru, k2, ?_, q _ G2 H2 (g1.trans g2) (.bl r)⟩
    cases hfs : fs with
    | nil => exact .inl (h3 hfs)
    | cons z zs =>
      obtain ⟨p, e1, e2⟩ := h2 (by rw [hfs]; simp)
      exact .inr ⟨p, xs, e1, g2.h _ _ (g1.s _ _ e2)⟩
/-- e.f -/
def tXv (K : PySem.W.Frag) (f : Str) (te : TE) : TE := fun σ H Q => te σ H fun x H1 => ∃ (a C dd : Addr) (u : HO) (fs : List (Str × V)) (v : V), x = .ref a ∧ H1 a = some u ∧ ExvO C (some dd) a u ∧ XfC K C ∧ PySem.W.findIn K (.ref C) f = some none ∧ H1 dd = some (.xd fs) ∧ fs.lookup f = some v ∧ Q v H1
theorem pe_xv {te : TE} (he : PE X e te) (hb : attributeBase e f X.env (eval e X.env) = eval e X.env := by rfl) : PE X (.Attribute e f pos) (tXv X.K f te) := by
  refine ⟨fun pins s σ H Q I h => ?_⟩
  refine attr_of hb (thn (he.run pins s σ H _ I h) fun u s1 hh => ?_)
  obtain ⟨x, H1, I1, rx, a, C, dd, w, fs, v, rfl, hu, ⟨φ, rfl, hφ⟩, T, hno, ea, l, q⟩ := hh
  obtain rfl : u = Value.ref a := rx
  obtain ⟨k1, _, _⟩ := I1.hok a _ hu
  obtain ⟨oe, vs, hget, hz, hd⟩ := hφ _ k1
  obtain ⟨mA, hns, hr⟩ := (show ObjOk X.prog X.w H1 s1.heap dd (.xd fs) from I1.hok dd _ ea)
  obtain ⟨od, ho, hl⟩ := lookIn_ns hns
  obtain ⟨w2, hw2, ru⟩ := RelO.some_of (v := v) (o := mA f) (by rw [← l]; exact hr f)
  have J : PySem.W.InstAt s1.heap a oe C (some od) := ⟨hget, hz.1, by unfold PySem.W.notCls; rw [hd] <;> rfl, by rw [hz.2]; exact ho⟩
  exact HandSPX.exc_get I1.kIn J T.ga T.gg T.exC (PySem.W.findObj_own T.hdC hno rfl (by rw [hl, hw2])) (handed_of ru) ⟨v, H1, I1.tok _, ru, q⟩
theorem ed_fldV (ha : ED X Γ e (.exv n fs)) (hT : ExF X.K f mf) (hr : mf n = true) (hl : (fs.lookup f).isSome = true) (hb : attributeBase e f X.env (eval e X.env) = eval e X.env := by first | exact ab_ns rfl | rfl) : ED X Γ (.Attribute e f pos) ((fs.lookup f).getD .non) := by
  obtain ⟨z, hl⟩ := Option.isSome_iff_exists.mp hl
  rw [hl]
  refine ed_of (pe_xv pe_w hb) fun F σ G H s Q q => ha F σ G H s _ fun v G1 H1 g1 i1 => ?_
  cases i1 with
  | @exv a C d u _ xs _ h0 h1 hu h2 h3 h4 =>
    obtain ⟨C', eC, k1, k2⟩ := hT.ex _ _ hr h0
    cases eC
    obtain ⟨p, e1, e2⟩ := h2 (by intro w; rw [w] at hl; cases hl)
    subst e1
    obtain ⟨w, k6, k7⟩ := h4.get hl
    exact ⟨a, C, p, u, xs, w, rfl, g1.s _ _ h1, hu, k1, k2, g1.s _ _ e2, k6, q w G1 H1 g1 k7⟩
end
end Sd

namespace LawP
open PySem PySem.Spec PyProof.Rows L2 Sd
def top (i : Nat) : Stmt := PySem.Challenge.pw_drawhouse_k16_refusals_apart.main.body.getD i (.Pass ⟨0, 0, 0, 0⟩)
abbrev LETTERS : List Nat := [97, 98, 99, 100, 101, 102, 103, 104, 105, 106, 107, 108, 109, 110, 111, 112, 113, 114, 115, 116, 117, 118, 119, 120, 121, 122]
abbrev FIGURES : List Nat := [48, 49, 50, 51, 52, 53, 54, 55, 56, 57]
def isx_HouseError : Str → Option Bool := fun n => List.lookup n ([("HouseError", true), ("NoExpr", true), ("NoText", true), ("TooMany", true), ("Twice", true), ("Double", true), ("Orphan", true), ("Clash", true), ("NoPart", true), ("NoName", true), ("NoDrop", true), ("Fault", true), ("TooWide", true), ("NoRow", true)] : List (Str × Bool))
def isx_NoExpr : Str → Option Bool := fun n => List.lookup n ([("HouseError", false), ("NoExpr", true), ("NoText", false), ("TooMany", false), ("Twice", false), ("Double", false), ("Orphan", false), ("Clash", false), ("NoPart", false), ("NoName", false), ("NoDrop", false), ("Fault", false), ("TooWide", false), ("NoRow", false)] : List (Str × Bool))
def isx_NoText : Str → Option Bool := fun n => List.lookup n ([("HouseError", false), ("NoExpr", false), ("NoText", true), ("TooMany", false), ("Twice", false), ("Double", false), ("Orphan", false), ("Clash", false), ("NoPart", false), ("NoName", false), ("NoDrop", false), ("Fault", false), ("TooWide", false), ("NoRow", false)] : List (Str × Bool))
def isx_TooMany : Str → Option Bool := fun n => List.lookup n ([("HouseError", false), ("NoExpr", false), ("NoText", false), ("TooMany", true), ("Twice", false), ("Double", false), ("Orphan", false), ("Clash", false), ("NoPart", false), ("NoName", false), ("NoDrop", false), ("Fault", false), ("TooWide", false), ("NoRow", false)] : List (Str × Bool))
def isx_Twice : Str → Option Bool := fun n => List.lookup n ([("HouseError", false), ("NoExpr", false), ("NoText", false), ("TooMany", false), ("Twice", true), ("Double", false), ("Orphan", false), ("Clash", false), ("NoPart", false), ("NoName", false), ("NoDrop", false), ("Fault", false), ("TooWide", false), ("NoRow", false)] : List (Str × Bool))
def isx_Double : Str → Option Bool := fun n => List.lookup n ([("HouseError", false), ("NoExpr", false), ("NoText", false), ("TooMany", false), ("Twice", false), ("Double", true), ("Orphan", false), ("Clash", false), ("NoPart", false), ("NoName", false), ("NoDrop", false), ("Fault", false), ("TooWide", false), ("NoRow", false)] : List (Str × Bool))
def isx_Orphan : Str → Option Bool := fun n => List.lookup n ([("HouseError", false), ("NoExpr", false), ("NoText", false), ("TooMany", false), ("Twice", false), ("Double", false), ("Orphan", true), ("Clash", false), ("NoPart", false), ("NoName", false), ("NoDrop", false), ("Fault", false), ("TooWide", false), ("NoRow", false)] : List (Str × Bool))
def isx_Clash : Str → Option Bool := fun n => List.lookup n ([("HouseError", false), ("NoExpr", false), ("NoText", false), ("TooMany", false), ("Twice", false), ("Double", false), ("Orphan", false), ("Clash", true), ("NoPart", false), ("NoName", false), ("NoDrop", false), ("Fault", false), ("TooWide", false), ("NoRow", false)] : List (Str × Bool))
def isx_NoPart : Str → Option Bool := fun n => List.lookup n ([("HouseError", false), ("NoExpr", false), ("NoText", false), ("TooMany", false), ("Twice", false), ("Double", false), ("Orphan", false), ("Clash", false), ("NoPart", true), ("NoName", false), ("NoDrop", false), ("Fault", false), ("TooWide", false), ("NoRow", false)] : List (Str × Bool))
def isx_NoName : Str → Option Bool := fun n => List.lookup n ([("HouseError", false), ("NoExpr", false), ("NoText", false), ("TooMany", false), ("Twice", false), ("Double", false), ("Orphan", false), ("Clash", false), ("NoPart", false), ("NoName", true), ("NoDrop", false), ("Fault", false), ("TooWide", false), ("NoRow", false)] : List (Str × Bool))
def isx_NoDrop : Str → Option Bool := fun n => List.lookup n ([("HouseError", false), ("NoExpr", false), ("NoText", false), ("TooMany", false), ("Twice", false), ("Double", false), ("Orphan", false), ("Clash", false), ("NoPart", false), ("NoName", false), ("NoDrop", true), ("Fault", false), ("TooWide", false), ("NoRow", false)] : List (Str × Bool))
def isx_Fault : Str → Option Bool := fun n => List.lookup n ([("HouseError", false), ("NoExpr", false), ("NoText", false), ("TooMany", false), ("Twice", false), ("Double", false), ("Orphan", false), ("Clash", false), ("NoPart", false), ("NoName", false), ("NoDrop", false), ("Fault", true), ("TooWide", false), ("NoRow", false)] : List (Str × Bool))
def isx_TooWide : Str → Option Bool := fun n => List.lookup n ([("HouseError", false), ("NoExpr", false), ("NoText", false), ("TooMany", false), ("Twice", false), ("Double", false), ("Orphan", false), ("Clash", false), ("NoPart", false), ("NoName", false), ("NoDrop", false), ("Fault", false), ("TooWide", true), ("NoRow", false)] : List (Str × Bool))
def isx_NoRow : Str → Option Bool := fun n => List.lookup n ([("HouseError", false), ("NoExpr", false), ("NoText", false), ("TooMany", false), ("Twice", false), ("Double", false), ("Orphan", false), ("Clash", false), ("NoPart", false), ("NoName", false), ("NoDrop", false), ("Fault", false), ("TooWide", false), ("NoRow", true)] : List (Str × Bool))
def isx_ValueError : Str → Option Bool := fun n => List.lookup n ([("HouseError", true), ("NoExpr", true), ("NoText", true), ("TooMany", true), ("Twice", true), ("Double", true), ("Orphan", true), ("Clash", true), ("NoPart", true), ("NoName", true), ("NoDrop", true), ("Fault", true), ("TooWide", true), ("NoRow", true)] : List (Str × Bool))
def exf_at : Str → Bool := fun n => decide (n ∈ (["NoText", "TooMany", "Twice", "Double", "Orphan", "Clash", "NoRow"] : List Str))
def exf_address : Str → Bool := fun n => decide (n ∈ (["NoPart", "NoDrop"] : List Str))
def exf_name : Str → Bool := fun n => decide (n ∈ (["NoName", "Fault"] : List Str))
def exf_word : Str → Bool := fun n => decide (n ∈ (["Fault"] : List Str))
def exf_trail : Str → Bool := fun n => decide (n ∈ (["Fault"] : List Str))
def exf_whose : Str → Bool := fun n => decide (n ∈ (["Fault"] : List Str))

abbrev s_NoText___init : Stmt := clsAt (top 3) 0
abbrev nm_NoText___init : List Str := ["self", "at"]
theorem sc_NoText___init : FnScope nm_NoText___init ["self", "at"] (defScope s_NoText___init) := ⟨rfl, rfl, rfl, by decide +kernel, rfl, by decide +kernel, by decide +kernel⟩
theorem lk_NoText___init_HouseError : (defScope s_NoText___init).names.lookup ("HouseError" : Str) = some .globalImplicit := by decide +kernel
theorem lk_NoText___init_at : (defScope s_NoText___init).names.lookup ("at" : Str) = some .local := by decide +kernel
theorem lk_NoText___init_self : (defScope s_NoText___init).names.lookup ("self" : Str) = some .local := by decide +kernel
def xNoText (a0 : Int) : List (Str × D) := [("at", (D.int a0))]
theorem bd_NoText_init (X : Cx) (E : XK) (hX : XOk 0 nm_NoText___init (defScope s_NoText___init) X) (hM : XCm X E) (fx_NoText_at : FldX X.K "NoText" "at") (xm_HouseError : InitB X.K X.mg "HouseError") (a0 : Int) {x C : Addr} (hC : ClsX X.K "NoText" C) : XI0 X x C ([.un, .d (D.int a0)] : List B) (defBody s_NoText___init) (xNoText a0) := (xi0_init hX rfl (vis_l lk_NoText___init_self) xm_HouseError (hX.gl lk_NoText___init_HouseError) hC.ox (xi0_fld hX rfl (vis_l lk_NoText___init_self) hC.ox (fx_NoText_at.no hC) (ed_var 1 (hX.nm rfl) (hX.vs (vis_l lk_NoText___init_at)) rfl) xi1_nil))
abbrev sp_NoText_init (K : PySem.W.Frag) : Sp := spX K "NoText" (A := Int) (fun a => [.d (D.int a)]) (fun a => xNoText a)
theorem ok_NoText_init {P : Program} {w : World} {K : PySem.W.Frag} {mg : Str → Option Value} {base : Heap} {f : Addr} {fd : FuncData} (F : Fun K "__init__" "NoText.__init__" s_NoText___init f fd) (fx_NoText_at : FldX K "NoText" "at") (xm_HouseError : InitB K mg "HouseError") : FnOk P w K mg base (L2.CX P w) 1 f fd ["self", "at"] (sp_NoText_init K) := by
  refine init_okX F sc_NoText___init (fun _ => rfl) (fun a X E e1 e2 e3 e4 e5 hX hM x C hC => ?_)
  subst e1 e2 e3 e4 e5
  exact bd_NoText_init X E hX hM fx_NoText_at xm_HouseError a hC
abbrev s_TooMany___init : Stmt := clsAt (top 4) 0
abbrev nm_TooMany___init : List Str := ["self", "at"]
theorem sc_TooMany___init : FnScope nm_TooMany___init ["self", "at"] (defScope s_TooMany___init) := ⟨rfl, rfl, rfl, by decide +kernel, rfl, by decide +kernel, by decide +kernel⟩
theorem lk_TooMany___init_HouseError : (defScope s_TooMany___init).names.lookup ("HouseError" : Str) = some .globalImplicit := by decide +kernel
theorem lk_TooMany___init_at : (defScope s_TooMany___init).names.lookup ("at" : Str) = some .local := by decide +kernel
theorem lk_TooMany___init_self : (defScope s_TooMany___init).names.lookup ("self" : Str) = some .local := by decide +kernel
def xTooMany (a0 : Int) : List (Str × D) := [("at", (D.int a0))]
theorem bd_TooMany_init (X : Cx) (E : XK) (hX : XOk 0 nm_TooMany___init (defScope s_TooMany___init) X) (hM : XCm X E) (fx_TooMany_at : FldX X.K "TooMany" "at") (xm_HouseError : InitB X.K X.mg "HouseError") (a0 : Int) {x C : Addr} (hC : ClsX X.K "TooMany" C) : XI0 X x C ([.un, .d (D.int a0)] : List B) (defBody s_TooMany___init) (xTooMany a0) := (xi0_init hX rfl (vis_l lk_TooMany___init_self) xm_HouseError (hX.gl lk_TooMany___init_HouseError) hC.ox (xi0_fld hX rfl (vis_l lk_TooMany___init_self) hC.ox (fx_TooMany_at.no hC) (ed_var 1 (hX.nm rfl) (hX.vs (vis_l lk_TooMany___init_at)) rfl) xi1_nil))
abbrev sp_TooMany_init (K : PySem.W.Frag) : Sp := spX K "TooMany" (A := Int) (fun a => [.d (D.int a)]) (fun a => xTooMany a)
theorem ok_TooMany_init {P : Program} {w : World} {K : PySem.W.Frag} {mg : Str → Option Value} {base : Heap} {f : Addr} {fd : FuncData} (F : Fun K "__init__" "TooMany.__init__" s_TooMany___init f fd) (fx_TooMany_at : FldX K "TooMany" "at") (xm_HouseError : InitB K mg "HouseError") : FnOk P w K mg base (L2.CX P w) 1 f fd ["self", "at"] (sp_TooMany_init K) := by
  refine init_okX F sc_TooMany___init (fun _ => rfl) (fun a X E e1 e2 e3 e4 e5 hX hM x C hC => ?_)
  subst e1 e2 e3 e4 e5
  exact bd_TooMany_init X E hX hM fx_TooMany_at xm_HouseError a hC
abbrev s_Twice___init : Stmt := clsAt (top 5) 0
abbrev nm_Twice___init : List Str := ["self", "at"]
theorem sc_Twice___init : FnScope nm_Twice___init ["self", "at"] (defScope s_Twice___init) := ⟨rfl, rfl, rfl, by decide +kernel, rfl, by decide +kernel, by decide +kernel⟩
theorem lk_Twice___init_HouseError : (defScope s_Twice___init).names.lookup ("HouseError" : Str) = some .globalImplicit := by decide +kernel
theorem lk_Twice___init_at : (defScope s_Twice___init).names.lookup ("at" : Str) = some .local := by decide +kernel
theorem lk_Twice___init_self : (defScope s_Twice___init).names.lookup ("self" : Str) = some .local := by decide +kernel
def xTwice (a0 : Int) : List (Str × D) := [("at", (D.int a0))]
theorem bd_Twice_init (X : Cx) (E : XK) (hX : XOk 0 nm_Twice___init (defScope s_Twice___init) X) (hM : XCm X E) (fx_Twice_at : FldX X.K "Twice" "at") (xm_HouseError : InitB X.K X.mg "HouseError") (a0 : Int) {x C : Addr} (hC : ClsX X.K "Twice" C) : XI0 X x C ([.un, .d (D.int a0)] : List B) (defBody s_Twice___init) (xTwice a0) := (xi0_init hX rfl (vis_l lk_Twice___init_self) xm_HouseError (hX.gl lk_Twice___init_HouseError) hC.ox (xi0_fld hX rfl (vis_l lk_Twice___init_self) hC.ox (fx_Twice_at.no hC) (ed_var 1 (hX.nm rfl) (hX.vs (vis_l lk_Twice___init_at)) rfl) xi1_nil))
abbrev sp_Twice_init (K : PySem.W.Frag) : Sp := spX K "Twice" (A := Int) (fun a => [.d (D.int a)]) (fun a => xTwice a)
theorem ok_Twice_init {P : Program} {w : World} {K : PySem.W.Frag} {mg : Str → Option Value} {base : Heap} {f : Addr} {fd : FuncData} (F : Fun K "__init__" "Twice.__init__" s_Twice___init f fd) (fx_Twice_at : FldX K "Twice" "at") (xm_HouseError : InitB K mg "HouseError") : FnOk P w K mg base (L2.CX P w) 1 f fd ["self", "at"] (sp_Twice_init K) := by
  refine init_okX F sc_Twice___init (fun _ => rfl) (fun a X E e1 e2 e3 e4 e5 hX hM x C hC => ?_)
  subst e1 e2 e3 e4 e5
  exact bd_Twice_init X E hX hM fx_Twice_at xm_HouseError a hC
abbrev s_Double___init : Stmt := clsAt (top 6) 0
abbrev nm_Double___init : List Str := ["self", "at"]
theorem sc_Double___init : FnScope nm_Double___init ["self", "at"] (defScope s_Double___init) := ⟨rfl, rfl, rfl, by decide +kernel, rfl, by decide +kernel, by decide +kernel⟩
theorem lk_Double___init_HouseError : (defScope s_Double___init).names.lookup ("HouseError" : Str) = some .globalImplicit := by decide +kernel
theorem lk_Double___init_at : (defScope s_Double___init).names.lookup ("at" : Str) = some .local := by decide +kernel
theorem lk_Double___init_self : (defScope s_Double___init).names.lookup ("self" : Str) = some .local := by decide +kernel
def xDouble (a0 : Int) : List (Str × D) := [("at", (D.int a0))]
theorem bd_Double_init (X : Cx) (E : XK) (hX : XOk 0 nm_Double___init (defScope s_Double___init) X) (hM : XCm X E) (fx_Double_at : FldX X.K "Double" "at") (xm_HouseError : InitB X.K X.mg "HouseError") (a0 : Int) {x C : Addr} (hC : ClsX X.K "Double" C) : XI0 X x C ([.un, .d (D.int a0)] : List B) (defBody s_Double___init) (xDouble a0) := (xi0_init hX rfl (vis_l lk_Double___init_self) xm_HouseError (hX.gl lk_Double___init_HouseError) hC.ox (xi0_fld hX rfl (vis_l lk_Double___init_self) hC.ox (fx_Double_at.no hC) (ed_var 1 (hX.nm rfl) (hX.vs (vis_l lk_Double___init_at)) rfl) xi1_nil))
abbrev sp_Double_init (K : PySem.W.Frag) : Sp := spX K "Double" (A := Int) (fun a => [.d (D.int a)]) (fun a => xDouble a)
theorem ok_Double_init {P : Program} {w : World} {K : PySem.W.Frag} {mg : Str → Option Value} {base : Heap} {f : Addr} {fd : FuncData} (F : Fun K "__init__" "Double.__init__" s_Double___init f fd) (fx_Double_at : FldX K "Double" "at") (xm_HouseError : InitB K mg "HouseError") : FnOk P w K mg base (L2.CX P w) 1 f fd ["self", "at"] (sp_Double_init K) := by
  refine init_okX F sc_Double___init (fun _ => rfl) (fun a X E e1 e2 e3 e4 e5 hX hM x C hC => ?_)
  subst e1 e2 e3 e4 e5
  exact bd_Double_init X E hX hM fx_Double_at xm_HouseError a hC
abbrev s_Orphan___init : Stmt := clsAt (top 7) 0
abbrev nm_Orphan___init : List Str := ["self", "at"]
theorem sc_Orphan___init : FnScope nm_Orphan___init ["self", "at"] (defScope s_Orphan___init) := ⟨rfl, rfl, rfl, by decide +kernel, rfl, by decide +kernel, by decide +kernel⟩
theorem lk_Orphan___init_HouseError : (defScope s_Orphan___init).names.lookup ("HouseError" : Str) = some .globalImplicit := by decide +kernel
theorem lk_Orphan___init_at : (defScope s_Orphan___init).names.lookup ("at" : Str) = some .local := by decide +kernel
theorem lk_Orphan___init_self : (defScope s_Orphan___init).names.lookup ("self" : Str) = some .local := by decide +kernel
def xOrphan (a0 : Int) : List (Str × D) := [("at", (D.int a0))]
theorem bd_Orphan_init (X : Cx) (E : XK) (hX : XOk 0 nm_Orphan___init (defScope s_Orphan___init) X) (hM : XCm X E) (fx_Orphan_at : FldX X.K "Orphan" "at") (xm_HouseError : InitB X.K X.mg "HouseError") (a0 : Int) {x C : Addr} (hC : ClsX X.K "Orphan" C) : XI0 X x C ([.un, .d (D.int a0)] : List B) (defBody s_Orphan___init) (xOrphan a0) := (xi0_init hX rfl (vis_l lk_Orphan___init_self) xm_HouseError (hX.gl lk_Orphan___init_HouseError) hC.ox (xi0_fld hX rfl (vis_l lk_Orphan___init_self) hC.ox (fx_Orphan_at.no hC) (ed_var 1 (hX.nm rfl) (hX.vs (vis_l lk_Orphan___init_at)) rfl) xi1_nil))
abbrev sp_Orphan_init (K : PySem.W.Frag) : Sp := spX K "Orphan" (A := Int) (fun a => [.d (D.int a)]) (fun a => xOrphan a)
theorem ok_Orphan_init {P : Program} {w : World} {K : PySem.W.Frag} {mg : Str → Option Value} {base : Heap} {f : Addr} {fd : FuncData} (F : Fun K "__init__" "Orphan.__init__" s_Orphan___init f fd) (fx_Orphan_at : FldX K "Orphan" "at") (xm_HouseError : InitB K mg "HouseError") : FnOk P w K mg base (L2.CX P w) 1 f fd ["self", "at"] (sp_Orphan_init K) := by
  refine init_okX F sc_Orphan___init (fun _ => rfl) (fun a X E e1 e2 e3 e4 e5 hX hM x C hC => ?_)
  subst e1 e2 e3 e4 e5
  exact bd_Orphan_init X E hX hM fx_Orphan_at xm_HouseError a hC
abbrev s_Clash___init : Stmt := clsAt (top 8) 0
abbrev nm_Clash___init : List Str := ["self", "at"]
theorem sc_Clash___init : FnScope nm_Clash___init ["self", "at"] (defScope s_Clash___init) := ⟨rfl, rfl, rfl, by decide +kernel, rfl, by decide +kernel, by decide +kernel⟩
theorem lk_Clash___init_HouseError : (defScope s_Clash___init).names.lookup ("HouseError" : Str) = some .globalImplicit := by decide +kernel
theorem lk_Clash___init_at : (defScope s_Clash___init).names.lookup ("at" : Str) = some .local := by decide +kernel
theorem lk_Clash___init_self : (defScope s_Clash___init).names.lookup ("self" : Str) = some .local := by decide +kernel
def xClash (a0 : Int) : List (Str × D) := [("at", (D.int a0))]
theorem bd_Clash_init (X : Cx) (E : XK) (hX : XOk 0 nm_Clash___init (defScope s_Clash___init) X) (hM : XCm X E) (fx_Clash_at : FldX X.K "Clash" "at") (xm_HouseError : InitB X.K X.mg "HouseError") (a0 : Int) {x C : Addr} (hC : ClsX X.K "Clash" C) : XI0 X x C ([.un, .d (D.int a0)] : List B) (defBody s_Clash___init) (xClash a0) := (xi0_init hX rfl (vis_l lk_Clash___init_self) xm_HouseError (hX.gl lk_Clash___init_HouseError) hC.ox (xi0_fld hX rfl (vis_l lk_Clash___init_self) hC.ox (fx_Clash_at.no hC) (ed_var 1 (hX.nm rfl) (hX.vs (vis_l lk_Clash___init_at)) rfl) xi1_nil))
abbrev sp_Clash_init (K : PySem.W.Frag) : Sp := spX K "Clash" (A := Int) (fun a => [.d (D.int a)]) (fun a => xClash a)
theorem ok_Clash_init {P : Program} {w : World} {K : PySem.W.Frag} {mg : Str → Option Value} {base : Heap} {f : Addr} {fd : FuncData} (F : Fun K "__init__" "Clash.__init__" s_Clash___init f fd) (fx_Clash_at : FldX K "Clash" "at") (xm_HouseError : InitB K mg "HouseError") : FnOk P w K mg base (L2.CX P w) 1 f fd ["self", "at"] (sp_Clash_init K) := by
  refine init_okX F sc_Clash___init (fun _ => rfl) (fun a X E e1 e2 e3 e4 e5 hX hM x C hC => ?_)
  subst e1 e2 e3 e4 e5
  exact bd_Clash_init X E hX hM fx_Clash_at xm_HouseError a hC
abbrev s_NoRow___init : Stmt := clsAt (top 14) 0
abbrev nm_NoRow___init : List Str := ["self", "at"]
theorem sc_NoRow___init : FnScope nm_NoRow___init ["self", "at"] (defScope s_NoRow___init) := ⟨rfl, rfl, rfl, by decide +kernel, rfl, by decide +kernel, by decide +kernel⟩
theorem lk_NoRow___init_HouseError : (defScope s_NoRow___init).names.lookup ("HouseError" : Str) = some .globalImplicit := by decide +kernel
theorem lk_NoRow___init_at : (defScope s_NoRow___init).names.lookup ("at" : Str) = some .local := by decide +kernel
theorem lk_NoRow___init_self : (defScope s_NoRow___init).names.lookup ("self" : Str) = some .local := by decide +kernel
def xNoRow (a0 : Int) : List (Str × D) := [("at", (D.int a0))]
theorem bd_NoRow_init (X : Cx) (E : XK) (hX : XOk 0 nm_NoRow___init (defScope s_NoRow___init) X) (hM : XCm X E) (fx_NoRow_at : FldX X.K "NoRow" "at") (xm_HouseError : InitB X.K X.mg "HouseError") (a0 : Int) {x C : Addr} (hC : ClsX X.K "NoRow" C) : XI0 X x C ([.un, .d (D.int a0)] : List B) (defBody s_NoRow___init) (xNoRow a0) := (xi0_init hX rfl (vis_l lk_NoRow___init_self) xm_HouseError (hX.gl lk_NoRow___init_HouseError) hC.ox (xi0_fld hX rfl (vis_l lk_NoRow___init_self) hC.ox (fx_NoRow_at.no hC) (ed_var 1 (hX.nm rfl) (hX.vs (vis_l lk_NoRow___init_at)) rfl) xi1_nil))
abbrev sp_NoRow_init (K : PySem.W.Frag) : Sp := spX K "NoRow" (A := Int) (fun a => [.d (D.int a)]) (fun a => xNoRow a)
theorem ok_NoRow_init {P : Program} {w : World} {K : PySem.W.Frag} {mg : Str → Option Value} {base : Heap} {f : Addr} {fd : FuncData} (F : Fun K "__init__" "NoRow.__init__" s_NoRow___init f fd) (fx_NoRow_at : FldX K "NoRow" "at") (xm_HouseError : InitB K mg "HouseError") : FnOk P w K mg base (L2.CX P w) 1 f fd ["self", "at"] (sp_NoRow_init K) := by
  refine init_okX F sc_NoRow___init (fun _ => rfl) (fun a X E e1 e2 e3 e4 e5 hX hM x C hC => ?_)
  subst e1 e2 e3 e4 e5
  exact bd_NoRow_init X E hX hM fx_NoRow_at xm_HouseError a hC
abbrev s_NoPart___init : Stmt := clsAt (top 9) 0
abbrev nm_NoPart___init : List Str := ["self", "address"]
theorem sc_NoPart___init : FnScope nm_NoPart___init ["self", "address"] (defScope s_NoPart___init) := ⟨rfl, rfl, rfl, by decide +kernel, rfl, by decide +kernel, by decide +kernel⟩
theorem lk_NoPart___init_HouseError : (defScope s_NoPart___init).names.lookup ("HouseError" : Str) = some .globalImplicit := by decide +kernel
theorem lk_NoPart___init_address : (defScope s_NoPart___init).names.lookup ("address" : Str) = some .local := by decide +kernel
theorem lk_NoPart___init_self : (defScope s_NoPart___init).names.lookup ("self" : Str) = some .local := by decide +kernel
def xNoPart (a0 : (List Nat)) : List (Str × D) := [("address", (D.str a0))]
theorem bd_NoPart_init (X : Cx) (E : XK) (hX : XOk 0 nm_NoPart___init (defScope s_NoPart___init) X) (hM : XCm X E) (fx_NoPart_address : FldX X.K "NoPart" "address") (xm_HouseError : InitB X.K X.mg "HouseError") (a0 : (List Nat)) {x C : Addr} (hC : ClsX X.K "NoPart" C) : XI0 X x C ([.un, .d (D.str a0)] : List B) (defBody s_NoPart___init) (xNoPart a0) := (xi0_init hX rfl (vis_l lk_NoPart___init_self) xm_HouseError (hX.gl lk_NoPart___init_HouseError) hC.ox (xi0_fld hX rfl (vis_l lk_NoPart___init_self) hC.ox (fx_NoPart_address.no hC) (ed_var 1 (hX.nm rfl) (hX.vs (vis_l lk_NoPart___init_address)) rfl) xi1_nil))
abbrev sp_NoPart_init (K : PySem.W.Frag) : Sp := spX K "NoPart" (A := (List Nat)) (fun a => [.d (D.str a)]) (fun a => xNoPart a)
theorem ok_NoPart_init {P : Program} {w : World} {K : PySem.W.Frag} {mg : Str → Option Value} {base : Heap} {f : Addr} {fd : FuncData} (F : Fun K "__init__" "NoPart.__init__" s_NoPart___init f fd) (fx_NoPart_address : FldX K "NoPart" "address") (xm_HouseError : InitB K mg "HouseError") : FnOk P w K mg base (L2.CX P w) 1 f fd ["self", "address"] (sp_NoPart_init K) := by
  refine init_okX F sc_NoPart___init (fun _ => rfl) (fun a X E e1 e2 e3 e4 e5 hX hM x C hC => ?_)
  subst e1 e2 e3 e4 e5
  exact bd_NoPart_init X E hX hM fx_NoPart_address xm_HouseError a hC
abbrev s_NoDrop___init : Stmt := clsAt (top 11) 0
abbrev nm_NoDrop___init : List Str := ["self", "address"]
theorem sc_NoDrop___init : FnScope nm_NoDrop___init ["self", "address"] (defScope s_NoDrop___init) := ⟨rfl, rfl, rfl, by decide +kernel, rfl, by decide +kernel, by decide +kernel⟩
theorem lk_NoDrop___init_HouseError : (defScope s_NoDrop___init).names.lookup ("HouseError" : Str) = some .globalImplicit := by decide +kernel
theorem lk_NoDrop___init_address : (defScope s_NoDrop___init).names.lookup ("address" : Str) = some .local := by decide +kernel
theorem lk_NoDrop___init_self : (defScope s_NoDrop___init).names.lookup ("self" : Str) = some .local := by decide +kernel
def xNoDrop (a0 : (List Nat)) : List (Str × D) := [("address", (D.str a0))]
theorem bd_NoDrop_init (X : Cx) (E : XK) (hX : XOk 0 nm_NoDrop___init (defScope s_NoDrop___init) X) (hM : XCm X E) (fx_NoDrop_address : FldX X.K "NoDrop" "address") (xm_HouseError : InitB X.K X.mg "HouseError") (a0 : (List Nat)) {x C : Addr} (hC : ClsX X.K "NoDrop" C) : XI0 X x C ([.un, .d (D.str a0)] : List B) (defBody s_NoDrop___init) (xNoDrop a0) := (xi0_init hX rfl (vis_l lk_NoDrop___init_self) xm_HouseError (hX.gl lk_NoDrop___init_HouseError) hC.ox (xi0_fld hX rfl (vis_l lk_NoDrop___init_self) hC.ox (fx_NoDrop_address.no hC) (ed_var 1 (hX.nm rfl) (hX.vs (vis_l lk_NoDrop___init_address)) rfl) xi1_nil))
abbrev sp_NoDrop_init (K : PySem.W.Frag) : Sp := spX K "NoDrop" (A := (List Nat)) (fun a => [.d (D.str a)]) (fun a => xNoDrop a)
theorem ok_NoDrop_init {P : Program} {w : World} {K : PySem.W.Frag} {mg : Str → Option Value} {base : Heap} {f : Addr} {fd : FuncData} (F : Fun K "__init__" "NoDrop.__init__" s_NoDrop___init f fd) (fx_NoDrop_address : FldX K "NoDrop" "address") (xm_HouseError : InitB K mg "HouseError") : FnOk P w K mg base (L2.CX P w) 1 f fd ["self", "address"] (sp_NoDrop_init K) := by
  refine init_okX F sc_NoDrop___init (fun _ => rfl) (fun a X E e1 e2 e3 e4 e5 hX hM x C hC => ?_)
  subst e1 e2 e3 e4 e5
  exact bd_NoDrop_init X E hX hM fx_NoDrop_address xm_HouseError a hC
abbrev s_NoName___init : Stmt := clsAt (top 10) 0
abbrev nm_NoName___init : List Str := ["self", "name"]
theorem sc_NoName___init : FnScope nm_NoName___init ["self", "name"] (defScope s_NoName___init) := ⟨rfl, rfl, rfl, by decide +kernel, rfl, by decide +kernel, by decide +kernel⟩
theorem lk_NoName___init_HouseError : (defScope s_NoName___init).names.lookup ("HouseError" : Str) = some .globalImplicit := by decide +kernel
theorem lk_NoName___init_name : (defScope s_NoName___init).names.lookup ("name" : Str) = some .local := by decide +kernel
theorem lk_NoName___init_self : (defScope s_NoName___init).names.lookup ("self" : Str) = some .local := by decide +kernel
def xNoName (a0 : (List Nat)) : List (Str × D) := [("name", (D.str a0))]
theorem bd_NoName_init (X : Cx) (E : XK) (hX : XOk 0 nm_NoName___init (defScope s_NoName___init) X) (hM : XCm X E) (fx_NoName_name : FldX X.K "NoName" "name") (xm_HouseError : InitB X.K X.mg "HouseError") (a0 : (List Nat)) {x C : Addr} (hC : ClsX X.K "NoName" C) : XI0 X x C ([.un, .d (D.str a0)] : List B) (defBody s_NoName___init) (xNoName a0) := (xi0_init hX rfl (vis_l lk_NoName___init_self) xm_HouseError (hX.gl lk_NoName___init_HouseError) hC.ox (xi0_fld hX rfl (vis_l lk_NoName___init_self) hC.ox (fx_NoName_name.no hC) (ed_var 1 (hX.nm rfl) (hX.vs (vis_l lk_NoName___init_name)) rfl) xi1_nil))
abbrev sp_NoName_init (K : PySem.W.Frag) : Sp := spX K "NoName" (A := (List Nat)) (fun a => [.d (D.str a)]) (fun a => xNoName a)
theorem ok_NoName_init {P : Program} {w : World} {K : PySem.W.Frag} {mg : Str → Option Value} {base : Heap} {f : Addr} {fd : FuncData} (F : Fun K "__init__" "NoName.__init__" s_NoName___init f fd) (fx_NoName_name : FldX K "NoName" "name") (xm_HouseError : InitB K mg "HouseError") : FnOk P w K mg base (L2.CX P w) 1 f fd ["self", "name"] (sp_NoName_init K) := by
  refine init_okX F sc_NoName___init (fun _ => rfl) (fun a X E e1 e2 e3 e4 e5 hX hM x C hC => ?_)
  subst e1 e2 e3 e4 e5
  exact bd_NoName_init X E hX hM fx_NoName_name xm_HouseError a hC
abbrev s_Fault___init : Stmt := clsAt (top 12) 0
abbrev nm_Fault___init : List Str := ["self", "word", "trail", "whose", "name"]
theorem sc_Fault___init : FnScope nm_Fault___init ["self", "word", "trail", "whose", "name"] (defScope s_Fault___init) := ⟨rfl, rfl, rfl, by decide +kernel, rfl, by decide +kernel, by decide +kernel⟩
theorem lk_Fault___init_HouseError : (defScope s_Fault___init).names.lookup ("HouseError" : Str) = some .globalImplicit := by decide +kernel
theorem lk_Fault___init_list : (defScope s_Fault___init).names.lookup ("list" : Str) = some .globalImplicit := by decide +kernel
theorem lk_Fault___init_name : (defScope s_Fault___init).names.lookup ("name" : Str) = some .local := by decide +kernel
theorem lk_Fault___init_self : (defScope s_Fault___init).names.lookup ("self" : Str) = some .local := by decide +kernel
theorem lk_Fault___init_trail : (defScope s_Fault___init).names.lookup ("trail" : Str) = some .local := by decide +kernel
theorem lk_Fault___init_whose : (defScope s_Fault___init).names.lookup ("whose" : Str) = some .local := by decide +kernel
theorem lk_Fault___init_word : (defScope s_Fault___init).names.lookup ("word" : Str) = some .local := by decide +kernel
def xFault (a0 : (List Nat)) (a1 : (List ((List Nat) × Int))) (a2 : (List Nat)) (a3 : (List Nat)) : List (Str × D) := [("name", (D.str a3)), ("whose", (D.str a2)), ("trail", (D.lst (List.map (fun z : ((List Nat) × Int) => (D.tup [(D.str z.1), (D.int z.2)])) a1))), ("word", (D.str a0))]
theorem bd_Fault_init (X : Cx) (E : XK) (hX : XOk 0 nm_Fault___init (defScope s_Fault___init) X) (hM : XCm X E) (m_list : X.mg "list" = none) (fx_Fault_word : FldX X.K "Fault" "word") (fx_Fault_trail : FldX X.K "Fault" "trail") (fx_Fault_whose : FldX X.K "Fault" "whose") (fx_Fault_name : FldX X.K "Fault" "name") (xm_HouseError : InitB X.K X.mg "HouseError") (a0 : (List Nat)) (a1 : (List ((List Nat) × Int))) (a2 : (List Nat)) (a3 : (List Nat)) {x C : Addr} (hC : ClsX X.K "Fault" C) : XI0 X x C ([.un, .d (D.str a0), .bor (List.map (fun z : ((List Nat) × Int) => (D.tup [(D.str z.1), (D.int z.2)])) a1), .d (D.str a2), .d (D.str a3)] : List B) (defBody s_Fault___init) (xFault a0 a1 a2 a3) := (xi0_init hX rfl (vis_l lk_Fault___init_self) xm_HouseError (hX.gl lk_Fault___init_HouseError) hC.ox (xi0_fld hX rfl (vis_l lk_Fault___init_self) hC.ox (fx_Fault_word.no hC) (ed_var 1 (hX.nm rfl) (hX.vs (vis_l lk_Fault___init_word)) rfl) (xi1_fld hX rfl (vis_l lk_Fault___init_self) hC.ox (fx_Fault_trail.no hC) (EvO.frz (eo_listL (hX.gl lk_Fault___init_list) m_list (el_bor 2 (hX.nm rfl) (hX.vs (vis_l lk_Fault___init_trail)) rfl))) (by show 1 ≤ 900; decide) (xi1_fld hX rfl (vis_l lk_Fault___init_self) hC.ox (fx_Fault_whose.no hC) (ed_var 3 (hX.nm rfl) (hX.vs (vis_l lk_Fault___init_whose)) rfl) (by show 2 ≤ 900; decide) (xi1_fld hX rfl (vis_l lk_Fault___init_self) hC.ox (fx_Fault_name.no hC) (ed_var 4 (hX.nm rfl) (hX.vs (vis_l lk_Fault___init_name)) rfl) (by show 3 ≤ 900; decide) xi1_nil)))))
abbrev sp_Fault_init (K : PySem.W.Frag) : Sp := spX K "Fault" (A := (List Nat) × (List ((List Nat) × Int)) × (List Nat) × (List Nat)) (fun a => [.d (D.str a.1), .l (List.map (fun z : ((List Nat) × Int) => (D.tup [(D.str z.1), (D.int z.2)])) a.2.1), .d (D.str a.2.2.1), .d (D.str a.2.2.2)]) (fun a => xFault a.1 a.2.1 a.2.2.1 a.2.2.2)
theorem ok_Fault_init {P : Program} {w : World} {K : PySem.W.Frag} {mg : Str → Option Value} {base : Heap} {f : Addr} {fd : FuncData} (F : Fun K "__init__" "Fault.__init__" s_Fault___init f fd) (m_list : mg "list" = none) (fx_Fault_word : FldX K "Fault" "word") (fx_Fault_trail : FldX K "Fault" "trail") (fx_Fault_whose : FldX K "Fault" "whose") (fx_Fault_name : FldX K "Fault" "name") (xm_HouseError : InitB K mg "HouseError") : FnOk P w K mg base (L2.CX P w) 1 f fd ["self", "word", "trail", "whose", "name"] (sp_Fault_init K) := by
  refine init_okX F sc_Fault___init (fun _ => rfl) (fun a X E e1 e2 e3 e4 e5 hX hM x C hC => ?_)
  subst e1 e2 e3 e4 e5
  exact bd_Fault_init X E hX hM m_list fx_Fault_word fx_Fault_trail fx_Fault_whose fx_Fault_name xm_HouseError a.1 a.2.1 a.2.2.1 a.2.2.2 hC
abbrev s_law_cell : Stmt := top 16
abbrev nm_law_cell : List Str := ["_law_script", "_law_k"]
theorem sc_law_cell : FnScope nm_law_cell ["_law_script", "_law_k"] (defScope s_law_cell) := ⟨rfl, rfl, rfl, by decide +kernel, rfl, by decide +kernel, by decide +kernel⟩
theorem lk_law_cell_law_k : (defScope s_law_cell).names.lookup ("_law_k" : Str) = some .local := by decide +kernel
theorem lk_law_cell_law_script : (defScope s_law_cell).names.lookup ("_law_script" : Str) = some .local := by decide +kernel
theorem lk_law_cell_len : (defScope s_law_cell).names.lookup ("len" : Str) = some .globalImplicit := by decide +kernel
noncomputable def c_cell (a0 : (List Int)) (a1 : Int) : Co Unit Empty Int := if (decide (a1 < (a0.length : Int))) = true then Co.up (chk ((-((a0).length : Int) ≤ a1 ∧ a1 < ((a0).length : Int))) (.ret (.ok ((ix a0 a1 0) % BM 16000)))) else .ret (.ok (0 : Int))
noncomputable def cellF (a0 : (List Int)) (a1 : Int) : Out Int := (c_cell a0 a1).out .stk
theorem bd_cell (X : Cx) (E : XK) (hX : XOk 0 nm_law_cell (defScope s_law_cell) X) (hM : XCm X E) (m_len : X.mg "len" = none) (a0 : (List Int)) (a1 : Int) : BC X E ([.d (D.scr a0), .d (D.int a1)] : List B) (defBody s_law_cell) (fun s : Unit => List.replicate 2 B.un) (fun s : Empty => nomatch s) (fun z : Int => Res.v (D.int z)) (c_cell a0 a1) := by
  unfold c_cell
  exact (c_ifr (et_cmp (od_lt _ _) (ed_var 1 (hX.nm rfl) (hX.vs (vis_l lk_law_cell_law_k)) rfl) (ed_lenScr (hX.gl lk_law_cell_len) m_len (ed_var 0 (hX.nm rfl) (hX.vs (vis_l lk_law_cell_law_script)) rfl))) (fun h1 => (c_chk (fun h3 => (have c2 := h3; (c_ret (ed_op (od_andK 16000 _) (ed_ixScr (ed_var 0 (hX.nm rfl) (hX.vs (vis_l lk_law_cell_law_script)) rfl) (ed_var 1 (hX.nm rfl) (hX.vs (vis_l lk_law_cell_law_k)) rfl) (ix_ok (d := 0) c2)) (ed_op (od_sub _ _) (ed_op (od_shlW 16000 _ (by decide) rfl) ed_int ed_int) ed_int)) rfl))))) (fun h1 => (c_ret ed_int rfl)))
abbrev sp_cell (K : PySem.W.Frag) : Sp := spG K (A := (List Int) × Int) (fun a => [.d (D.scr a.1), .d (D.int a.2)]) (fun _ => True) (fun a => rsOf (fun z : Int => Res.v (D.int z)) (cellF a.1 a.2))
theorem ok_cell {P : Program} {w : World} {K : PySem.W.Frag} {mg : Str → Option Value} {base : Heap} {f : Addr} {fd : FuncData} (F : Fun K "_law_cell" "_law_cell" s_law_cell f fd) (m_len : mg "len" = none) : FnOk P w K mg base (L2.CX P w) 1 f fd ["_law_script", "_law_k"] (sp_cell K) :=
  def_okC (A := (List Int) × Int) F sc_law_cell .stk (.inl rfl) (fun _ => rfl) (fun a => c_cell a.1 a.2) (fun a X E e1 e2 e3 e4 e5 hX hM => by
    subst e1 e2 e3 e4 e5
    exact bd_cell X E hX hM m_len a.1 a.2)
abbrev s_law_sub : Stmt := top 17
abbrev nm_law_sub : List Str := ["_law_cell_here", "_law_j"]
theorem sc_law_sub : FnScope nm_law_sub ["_law_cell_here", "_law_j"] (defScope s_law_sub) := ⟨rfl, rfl, rfl, by decide +kernel, rfl, by decide +kernel, by decide +kernel⟩
theorem lk_law_sub_law_cell_here : (defScope s_law_sub).names.lookup ("_law_cell_here" : Str) = some .local := by decide +kernel
theorem lk_law_sub_law_j : (defScope s_law_sub).names.lookup ("_law_j" : Str) = some .local := by decide +kernel
noncomputable def c_sub (a0 : Int) (a1 : Int) : Co Unit Empty Int := chk (((decide ((a0 % (2 : Int)) = (1 : Int))) = true → (0 ≤ (((480 : Int) * a1) + (400 : Int))))) (if ((decide ((a0 % (2 : Int)) = (1 : Int))) && (decide ((0 : Int) < (a0 / 2 ^ ((((480 : Int) * a1) + (400 : Int))).toNat)))) = true then Co.up (chk ((0 ≤ ((480 : Int) * a1))) (.ret (.ok (Builtin.bitOr (a0 / 2 ^ (((480 : Int) * a1)).toNat) (1 : Int))))) else chk ((CDiv (a0 / (2 : Int)) (a1 + (1 : Int)))) (.ret (.ok ((((a0 / (2 : Int)) / (a1 + (1 : Int))) + ((104729 : Int) * a1)) * (2 : Int)))))
noncomputable def subF (a0 : Int) (a1 : Int) : Out Int := (c_sub a0 a1).out .stk
theorem bd_sub (X : Cx) (E : XK) (hX : XOk 0 nm_law_sub (defScope s_law_sub) X) (hM : XCm X E) (a0 : Int) (a1 : Int) : BC X E ([.d (D.int a0), .d (D.int a1)] : List B) (defBody s_law_sub) (fun s : Unit => List.replicate 2 B.un) (fun s : Empty => nomatch s) (fun z : Int => Res.v (D.int z)) (c_sub a0 a1) := by
  unfold c_sub
  exact (c_chk (fun h9 => (have c3 := h9; (c_ifr (et_w (ew_and (et_cmp (od_eqI _ _) (ed_op (od_mod _ _ (by decide)) (ed_var 0 (hX.nm rfl) (hX.vs (vis_l lk_law_sub_law_cell_here)) rfl) ed_int) ed_int) (fun h2 => (have c1 := (c3 h2); (ew_and1 (et_cmp (od_gt _ _) (ed_op (od_shr _ _ c1) (ed_var 0 (hX.nm rfl) (hX.vs (vis_l lk_law_sub_law_cell_here)) rfl) (ed_op (od_add _ _) (ed_op (od_mul _ _ (.inl (by decide))) ed_int (ed_var 1 (hX.nm rfl) (hX.vs (vis_l lk_law_sub_law_j)) rfl)) ed_int)) ed_int)))))) (fun h4 => (c_chk (fun h6 => (have c5 := h6; (c_ret (ed_op (od_or _ _) (ed_op (od_shr _ _ c5) (ed_var 0 (hX.nm rfl) (hX.vs (vis_l lk_law_sub_law_cell_here)) rfl) (ed_op (od_mul _ _ (.inl (by decide))) ed_int (ed_var 1 (hX.nm rfl) (hX.vs (vis_l lk_law_sub_law_j)) rfl))) ed_int) rfl))))) (fun h4 => (c_chk (fun h8 => (have c7 := h8; (c_ret (ed_op (od_mul _ _ (.inr (by decide))) (ed_op (od_add _ _) (ed_op (od_div _ _ c7) (ed_op (od_div _ _ (show CDiv _ _ from ⟨by decide, by decide⟩)) (ed_var 0 (hX.nm rfl) (hX.vs (vis_l lk_law_sub_law_cell_here)) rfl) ed_int) (ed_op (od_add _ _) (ed_var 1 (hX.nm rfl) (hX.vs (vis_l lk_law_sub_law_j)) rfl) ed_int)) (ed_op (od_mul _ _ (.inl (by decide))) ed_int (ed_var 1 (hX.nm rfl) (hX.vs (vis_l lk_law_sub_law_j)) rfl))) ed_int) rfl)))))))))
abbrev sp_sub (K : PySem.W.Frag) : Sp := spG K (A := Int × Int) (fun a => [.d (D.int a.1), .d (D.int a.2)]) (fun _ => True) (fun a => rsOf (fun z : Int => Res.v (D.int z)) (subF a.1 a.2))
theorem ok_sub {P : Program} {w : World} {K : PySem.W.Frag} {mg : Str → Option Value} {base : Heap} {f : Addr} {fd : FuncData} (F : Fun K "_law_sub" "_law_sub" s_law_sub f fd) : FnOk P w K mg base (L2.CX P w) 1 f fd ["_law_cell_here", "_law_j"] (sp_sub K) :=
  def_okC (A := Int × Int) F sc_law_sub .stk (.inl rfl) (fun _ => rfl) (fun a => c_sub a.1 a.2) (fun a X E e1 e2 e3 e4 e5 hX hM => by
    subst e1 e2 e3 e4 e5
    exact bd_sub X E hX hM a.1 a.2)
abbrev s_law_pick : Stmt := top 19
abbrev nm_law_pick : List Str := ["_law_cell_here", "_law_k", "_law_many", "_law_great", "_law_by", "_law_one"]
theorem sc_law_pick : FnScope nm_law_pick ["_law_cell_here", "_law_k", "_law_many"] (defScope s_law_pick) := ⟨rfl, rfl, rfl, by decide +kernel, rfl, by decide +kernel, by decide +kernel⟩
theorem lk_law_pick_law_by : (defScope s_law_pick).names.lookup ("_law_by" : Str) = some .local := by decide +kernel
theorem lk_law_pick_law_cell_here : (defScope s_law_pick).names.lookup ("_law_cell_here" : Str) = some .local := by decide +kernel
theorem lk_law_pick_law_great : (defScope s_law_pick).names.lookup ("_law_great" : Str) = some .local := by decide +kernel
theorem lk_law_pick_law_k : (defScope s_law_pick).names.lookup ("_law_k" : Str) = some .local := by decide +kernel
theorem lk_law_pick_law_many : (defScope s_law_pick).names.lookup ("_law_many" : Str) = some .local := by decide +kernel
theorem lk_law_pick_law_one : (defScope s_law_pick).names.lookup ("_law_one" : Str) = some .local := by decide +kernel
noncomputable def c_pick (a0 : Int) (a1 : Int) (a2 : Int) : Co Unit Empty Int := if ((decide ((a0 % (2 : Int)) = (1 : Int))) && (decide ((0 : Int) < (a0 / 2 ^ ((400 : Int)).toNat)))) = true then Co.up (chk ((0 ≤ ((1 : Int) + ((10 : Int) * a1))) ∧ (0 < a2)) (.ret (.ok (((a0 / 2 ^ (((1 : Int) + ((10 : Int) * a1))).toNat) % 2 ^ 10) % a2)))) else bnd ((2305843009213693951 : Int) : Int) fun v6 => chk ((-((([(48271 : Int), (1000003 : Int), (15485863 : Int), (32452843 : Int), (49979687 : Int), (67867967 : Int), (86028121 : Int), (104395301 : Int)] : List Int)).length : Int) ≤ (a1 % (8 : Int)) ∧ (a1 % (8 : Int)) < ((([(48271 : Int), (1000003 : Int), (15485863 : Int), (32452843 : Int), (49979687 : Int), (67867967 : Int), (86028121 : Int), (104395301 : Int)] : List Int)).length : Int))) (bnd ((ix ([(48271 : Int), (1000003 : Int), (15485863 : Int), (32452843 : Int), (49979687 : Int), (67867967 : Int), (86028121 : Int), (104395301 : Int)] : List Int) (a1 % (8 : Int)) (0 : Int)) : Int) fun v7 => chk ((-((([(179424673 : Int), (373587883 : Int), (573259391 : Int), (776531401 : Int), (982451653 : Int)] : List Int)).length : Int) ≤ (a1 / (8 : Int)) ∧ (a1 / (8 : Int)) < ((([(179424673 : Int), (373587883 : Int), (573259391 : Int), (776531401 : Int), (982451653 : Int)] : List Int)).length : Int)) ∧ (CMul v7 (ix ([(179424673 : Int), (373587883 : Int), (573259391 : Int), (776531401 : Int), (982451653 : Int)] : List Int) (a1 / (8 : Int)) (0 : Int)))) (bnd ((v7 * (ix ([(179424673 : Int), (373587883 : Int), (573259391 : Int), (776531401 : Int), (982451653 : Int)] : List Int) (a1 / (8 : Int)) (0 : Int))) : Int) fun v9 => chk ((0 < v6) ∧ (CMul (((a0 / (2 : Int)) % v6) + (1 : Int)) v9) ∧ (0 < v6)) (bnd ((((((a0 / (2 : Int)) % v6) + (1 : Int)) * v9) % v6) : Int) fun v12 => chk ((CMul v12 v12)) (bnd (((v12 * v12) % (1000000000039 : Int)) : Int) fun v16 => chk ((CMul ((v16 + a1) + (1 : Int)) ((v16 / (10007 : Int)) + (48271 : Int))) ∧ (0 < a2)) (.ret (.ok ((((((v16 + a1) + (1 : Int)) * ((v16 / (10007 : Int)) + (48271 : Int))) % (67280421310721 : Int)) / (31 : Int)) % a2)))))))
noncomputable def pickF (a0 : Int) (a1 : Int) (a2 : Int) : Out Int := (c_pick a0 a1 a2).out .stk
theorem bd_pick (X : Cx) (E : XK) (hX : XOk 0 nm_law_pick (defScope s_law_pick) X) (hM : XCm X E) (a0 : Int) (a1 : Int) (a2 : Int) : BC X E ([.d (D.int a0), .d (D.int a1), .d (D.int a2), .un, .un, .un] : List B) (defBody s_law_pick) (fun s : Unit => List.replicate 6 B.un) (fun s : Empty => nomatch s) (fun z : Int => Res.v (D.int z)) (c_pick a0 a1 a2) := by
  unfold c_pick
  exact (c_ifr (et_w (ew_and (et_cmp (od_eqI _ _) (ed_op (od_mod _ _ (by decide)) (ed_var 0 (hX.nm rfl) (hX.vs (vis_l lk_law_pick_law_cell_here)) rfl) ed_int) ed_int) (fun h1 => (ew_and1 (et_cmp (od_gt _ _) (ed_op (od_shr _ _ (by decide)) (ed_var 0 (hX.nm rfl) (hX.vs (vis_l lk_law_pick_law_cell_here)) rfl) ed_int) ed_int))))) (fun h2 => (c_chk (fun h5 => (have ⟨c3, c4⟩ := h5; (c_ret (ed_op (od_mod _ _ c4) (ed_op (od_andM _ _ 10 (by decide)) (ed_op (od_shr _ _ c3) (ed_var 0 (hX.nm rfl) (hX.vs (vis_l lk_law_pick_law_cell_here)) rfl) (ed_op (od_add _ _) ed_int (ed_op (od_mul _ _ (.inl (by decide))) ed_int (ed_var 1 (hX.nm rfl) (hX.vs (vis_l lk_law_pick_law_k)) rfl)))) ed_int) (ed_var 2 (hX.nm rfl) (hX.vs (vis_l lk_law_pick_law_many)) rfl)) rfl))))) (fun h2 => (c_set 3 D.int hX rfl (loc_l lk_law_pick_law_great) ed_int (fun v6 hv6 => (show BC X E ([.d (D.int a0), .d (D.int a1), .d (D.int a2), .d (D.int v6), .un, .un] : List B) _ _ _ _ _ from (c_chk (fun h24 => (have c8 := h24; (c_set 4 D.int hX rfl (loc_l lk_law_pick_law_by) (ed_ixL (EvO.el (eo_lst (ea_cons ed_int (ea_cons ed_int (ea_cons ed_int (ea_cons ed_int (ea_cons ed_int (ea_cons ed_int (ea_cons ed_int (ea_cons ed_int ea_nil)))))))) (by show 8 ≤ sizeLine; decide))) (ed_op (od_mod _ _ (by decide)) (ed_var 1 (hX.nm rfl) (hX.vs (vis_l lk_law_pick_law_k)) rfl) ed_int) (atI_map (f := D.int) (xs := ([(48271 : Int), (1000003 : Int), (15485863 : Int), (32452843 : Int), (49979687 : Int), (67867967 : Int), (86028121 : Int), (104395301 : Int)] : List Int)) (ix_ok (d := (0 : Int)) c8))) (fun v7 hv7 => (show BC X E ([.d (D.int a0), .d (D.int a1), .d (D.int a2), .d (D.int v6), .d (D.int v7), .un] : List B) _ _ _ _ _ from (c_chk (fun h23 => (have ⟨c10, c11⟩ := h23; (c_set 4 D.int hX rfl (loc_l lk_law_pick_law_by) (ed_op (od_mul _ _ c11) (ed_var 4 (hX.nm rfl) (hX.vs (vis_l lk_law_pick_law_by)) rfl) (ed_ixL (EvO.el (eo_lst (ea_cons ed_int (ea_cons ed_int (ea_cons ed_int (ea_cons ed_int (ea_cons ed_int ea_nil))))) (by show 5 ≤ sizeLine; decide))) (ed_op (od_div _ _ (show CDiv _ _ from ⟨by decide, by decide⟩)) (ed_var 1 (hX.nm rfl) (hX.vs (vis_l lk_law_pick_law_k)) rfl) ed_int) (atI_map (f := D.int) (xs := ([(179424673 : Int), (373587883 : Int), (573259391 : Int), (776531401 : Int), (982451653 : Int)] : List Int)) (ix_ok (d := (0 : Int)) c10)))) (fun v9 hv9 => (show BC X E ([.d (D.int a0), .d (D.int a1), .d (D.int a2), .d (D.int v6), .d (D.int v9), .un] : List B) _ _ _ _ _ from (c_chk (fun h22 => (have ⟨c13, c14, c15⟩ := h22; (c_set 5 D.int hX rfl (loc_l lk_law_pick_law_one) (ed_op (od_mod _ _ c15) (ed_op (od_mul _ _ c14) (ed_op (od_add _ _) (ed_op (od_mod _ _ c13) (ed_op (od_div _ _ (show CDiv _ _ from ⟨by decide, by decide⟩)) (ed_var 0 (hX.nm rfl) (hX.vs (vis_l lk_law_pick_law_cell_here)) rfl) ed_int) (ed_var 3 (hX.nm rfl) (hX.vs (vis_l lk_law_pick_law_great)) rfl)) ed_int) (ed_var 4 (hX.nm rfl) (hX.vs (vis_l lk_law_pick_law_by)) rfl)) (ed_var 3 (hX.nm rfl) (hX.vs (vis_l lk_law_pick_law_great)) rfl)) (fun v12 hv12 => (show BC X E ([.d (D.int a0), .d (D.int a1), .d (D.int a2), .d (D.int v6), .d (D.int v9), .d (D.int v12)] : List B) _ _ _ _ _ from (c_chk (fun h21 => (have c17 := h21; (c_set 5 D.int hX rfl (loc_l lk_law_pick_law_one) (ed_op (od_mod _ _ (by decide)) (ed_op (od_mul _ _ c17) (ed_var 5 (hX.nm rfl) (hX.vs (vis_l lk_law_pick_law_one)) rfl) (ed_var 5 (hX.nm rfl) (hX.vs (vis_l lk_law_pick_law_one)) rfl)) ed_int) (fun v16 hv16 => (show BC X E ([.d (D.int a0), .d (D.int a1), .d (D.int a2), .d (D.int v6), .d (D.int v9), .d (D.int v16)] : List B) _ _ _ _ _ from (c_chk (fun h20 => (have ⟨c18, c19⟩ := h20; (c_ret (ed_op (od_mod _ _ c19) (ed_op (od_div _ _ (show CDiv _ _ from ⟨by decide, by decide⟩)) (ed_op (od_mod _ _ (by decide)) (ed_op (od_mul _ _ c18) (ed_op (od_add _ _) (ed_op (od_add _ _) (ed_var 5 (hX.nm rfl) (hX.vs (vis_l lk_law_pick_law_one)) rfl) (ed_var 1 (hX.nm rfl) (hX.vs (vis_l lk_law_pick_law_k)) rfl)) ed_int) (ed_op (od_add _ _) (ed_op (od_div _ _ (show CDiv _ _ from ⟨by decide, by decide⟩)) (ed_var 5 (hX.nm rfl) (hX.vs (vis_l lk_law_pick_law_one)) rfl) ed_int) ed_int)) ed_int) ed_int) (ed_var 2 (hX.nm rfl) (hX.vs (vis_l lk_law_pick_law_many)) rfl)) rfl)))))))))))))))))))))))))))))))))
abbrev sp_pick (K : PySem.W.Frag) : Sp := spG K (A := Int × Int × Int) (fun a => [.d (D.int a.1), .d (D.int a.2.1), .d (D.int a.2.2)]) (fun _ => True) (fun a => rsOf (fun z : Int => Res.v (D.int z)) (pickF a.1 a.2.1 a.2.2))
theorem ok_pick {P : Program} {w : World} {K : PySem.W.Frag} {mg : Str → Option Value} {base : Heap} {f : Addr} {fd : FuncData} (F : Fun K "_law_pick" "_law_pick" s_law_pick f fd) : FnOk P w K mg base (L2.CX P w) 1 f fd ["_law_cell_here", "_law_k", "_law_many"] (sp_pick K) :=
  def_okC (A := Int × Int × Int) F sc_law_pick .stk (.inl rfl) (fun _ => rfl) (fun a => c_pick a.1 a.2.1 a.2.2) (fun a X E e1 e2 e3 e4 e5 hX hM => by
    subst e1 e2 e3 e4 e5
    exact bd_pick X E hX hM a.1 a.2.1 a.2.2)
abbrev s_law_number : Stmt := top 18
abbrev nm_law_number : List Str := ["_law_cell_here", "_law_far"]
theorem sc_law_number : FnScope nm_law_number ["_law_cell_here", "_law_far"] (defScope s_law_number) := ⟨rfl, rfl, rfl, by decide +kernel, rfl, by decide +kernel, by decide +kernel⟩
theorem lk_law_number_law_cell_here : (defScope s_law_number).names.lookup ("_law_cell_here" : Str) = some .local := by decide +kernel
theorem lk_law_number_law_far : (defScope s_law_number).names.lookup ("_law_far" : Str) = some .local := by decide +kernel
noncomputable def c_number (a0 : Int) (a1 : Int) : Co Unit Empty Int := if ((decide ((a0 % (2 : Int)) = (1 : Int))) && (decide ((0 : Int) < (a0 / 2 ^ ((400 : Int)).toNat)))) = true then Co.up (chk ((0 < a1)) (.ret (.ok ((a0 / 2 ^ ((400 : Int)).toNat) % a1)))) else chk ((0 < a1)) (.ret (.ok ((a0 / (2 : Int)) % a1)))
noncomputable def numberF (a0 : Int) (a1 : Int) : Out Int := (c_number a0 a1).out .stk
theorem bd_number (X : Cx) (E : XK) (hX : XOk 0 nm_law_number (defScope s_law_number) X) (hM : XCm X E) (a0 : Int) (a1 : Int) : BC X E ([.d (D.int a0), .d (D.int a1)] : List B) (defBody s_law_number) (fun s : Unit => List.replicate 2 B.un) (fun s : Empty => nomatch s) (fun z : Int => Res.v (D.int z)) (c_number a0 a1) := by
  unfold c_number
  exact (c_ifr (et_w (ew_and (et_cmp (od_eqI _ _) (ed_op (od_mod _ _ (by decide)) (ed_var 0 (hX.nm rfl) (hX.vs (vis_l lk_law_number_law_cell_here)) rfl) ed_int) ed_int) (fun h1 => (ew_and1 (et_cmp (od_gt _ _) (ed_op (od_shr _ _ (by decide)) (ed_var 0 (hX.nm rfl) (hX.vs (vis_l lk_law_number_law_cell_here)) rfl) ed_int) ed_int))))) (fun h2 => (c_chk (fun h4 => (have c3 := h4; (c_ret (ed_op (od_mod _ _ c3) (ed_op (od_shr _ _ (by decide)) (ed_var 0 (hX.nm rfl) (hX.vs (vis_l lk_law_number_law_cell_here)) rfl) ed_int) (ed_var 1 (hX.nm rfl) (hX.vs (vis_l lk_law_number_law_far)) rfl)) rfl))))) (fun h2 => (c_chk (fun h6 => (have c5 := h6; (c_ret (ed_op (od_mod _ _ c5) (ed_op (od_div _ _ (show CDiv _ _ from ⟨by decide, by decide⟩)) (ed_var 0 (hX.nm rfl) (hX.vs (vis_l lk_law_number_law_cell_here)) rfl) ed_int) (ed_var 1 (hX.nm rfl) (hX.vs (vis_l lk_law_number_law_far)) rfl)) rfl))))))
abbrev sp_number (K : PySem.W.Frag) : Sp := spG K (A := Int × Int) (fun a => [.d (D.int a.1), .d (D.int a.2)]) (fun _ => True) (fun a => rsOf (fun z : Int => Res.v (D.int z)) (numberF a.1 a.2))
theorem ok_number {P : Program} {w : World} {K : PySem.W.Frag} {mg : Str → Option Value} {base : Heap} {f : Addr} {fd : FuncData} (F : Fun K "_law_number" "_law_number" s_law_number f fd) : FnOk P w K mg base (L2.CX P w) 1 f fd ["_law_cell_here", "_law_far"] (sp_number K) :=
  def_okC (A := Int × Int) F sc_law_number .stk (.inl rfl) (fun _ => rfl) (fun a => c_number a.1 a.2) (fun a X E e1 e2 e3 e4 e5 hX hM => by
    subst e1 e2 e3 e4 e5
    exact bd_number X E hX hM a.1 a.2)
abbrev s_law_name : Stmt := top 20
abbrev nm_law_name : List Str := ["_law_cell_here", "_law_letters", "_law_j"]
theorem sc_law_name : FnScope nm_law_name ["_law_cell_here"] (defScope s_law_name) := ⟨rfl, rfl, rfl, by decide +kernel, rfl, by decide +kernel, by decide +kernel⟩
theorem lk_law_name_law_cell_here : (defScope s_law_name).names.lookup ("_law_cell_here" : Str) = some .cell := by decide +kernel
theorem lk_law_name_law_letters : (defScope s_law_name).names.lookup ("_law_letters" : Str) = some .cell := by decide +kernel
theorem lk_law_name_law_pick : (defScope s_law_name).names.lookup ("_law_pick" : Str) = some .globalImplicit := by decide +kernel
theorem lk_law_name_range : (defScope s_law_name).names.lookup ("range" : Str) = some .globalImplicit := by decide +kernel
noncomputable def c_name (a0 : Int) : Co Unit Empty (List Nat) := bnd (([97, 98, 99, 100, 101, 102, 103, 104, 105, 106, 107, 108, 109, 110, 111, 112, 113, 114, 115, 116, 117, 118, 119, 120, 121, 122] : List Nat) : (List Nat)) fun v1 => chk ((((pickF a0 (30 : Int) (8 : Int))).IsOk) ∧ (-(2 ^ 62) ≤ ((1 : Int) + ((pickF a0 (30 : Int) (8 : Int)).get (0 : Int))) ∧ ((1 : Int) + ((pickF a0 (30 : Int) (8 : Int)).get (0 : Int))) < 2 ^ 62) ∧ (∀ y4 ∈ (rints 0 (((1 : Int) + ((pickF a0 (30 : Int) (8 : Int)).get (0 : Int)))).toNat), (((pickF a0 ((31 : Int) + y4) (26 : Int))).IsOk) ∧ (-((v1).length : Int) ≤ ((pickF a0 ((31 : Int) + y4) (26 : Int)).get (0 : Int)) ∧ ((pickF a0 ((31 : Int) + y4) (26 : Int)).get (0 : Int)) < ((v1).length : Int))) ∧ ((rints 0 (((1 : Int) + ((pickF a0 (30 : Int) (8 : Int)).get (0 : Int)))).toNat).length < sizeLine) ∧ ((List.map (·.length) (List.map (fun y4 : Int => [(ix v1 ((pickF a0 ((31 : Int) + y4) (26 : Int)).get (0 : Int)) 0)]) (rints 0 (((1 : Int) + ((pickF a0 (30 : Int) (8 : Int)).get (0 : Int)))).toNat))).sum + (List.map (fun y4 : Int => [(ix v1 ((pickF a0 ((31 : Int) + y4) (26 : Int)).get (0 : Int)) 0)]) (rints 0 (((1 : Int) + ((pickF a0 (30 : Int) (8 : Int)).get (0 : Int)))).toNat)).length * ([] : List Nat).length ≤ LMax)) (.ret (.ok (joinS ([] : List Nat) (List.map (fun y4 : Int => [(ix v1 ((pickF a0 ((31 : Int) + y4) (26 : Int)).get (0 : Int)) 0)]) (rints 0 (((1 : Int) + ((pickF a0 (30 : Int) (8 : Int)).get (0 : Int)))).toNat)))))
noncomputable def nameF (a0 : Int) : Out (List Nat) := (c_name a0).out .stk
theorem bd_name (X : Cx) (E : XK) (hX : XOk 1 nm_law_name (defScope s_law_name) X) (hM : XCm X E) (m_range : X.mg "range" = none) (kn_pick : KnX X "_law_pick" 1 (sp_pick X.K)) (a0 : Int) : BC X E ([.d (D.int a0), .un, .un] : List B) (defBody s_law_name) (fun s : Unit => List.replicate 3 B.un) (fun s : Empty => nomatch s) (fun z : (List Nat) => Res.v (D.str z)) (c_name a0) := by
  unfold c_name
  exact (c_set 1 D.str hX rfl (loc_c lk_law_name_law_letters) (ed_str ([97, 98, 99, 100, 101, 102, 103, 104, 105, 106, 107, 108, 109, 110, 111, 112, 113, 114, 115, 116, 117, 118, 119, 120, 121, 122] : List Nat) (by decide +kernel) (by decide)) (fun v1 hv1 => (show BC X E ([.d (D.int a0), .d (D.str v1), .un] : List B) _ _ _ _ _ from (c_chk (fun h12 => (have ⟨c2, c3, c9, c10, c11⟩ := h12; (c_ret (ed_join (ed_str ([] : List Nat) (by decide +kernel) (by decide)) (EvO.el (eo_lc hM.calm hX.nd (lc_ok0 (Yt := Int) (τ := (List Nat)) (encY := D.int) (enc := D.str) (g := (gName 2)) (js := [2]) (own := [("_law_j", 2)]) (rints 0 (((1 : Int) + ((pickF a0 (30 : Int) (8 : Int)).get (0 : Int)))).toNat) (fun y4 : Int => [(ix v1 ((pickF a0 ((31 : Int) + y4) (26 : Int)).get (0 : Int)) 0)]) (it_range1 (hX.gl lk_law_name_range) m_range (ed_op (od_add _ _) ed_int (ed_okS (z := D.int) (0 : Int) (fun E tk => (es_call (E := E) ((a0, (30 : Int), (8 : Int)) : Int × Int × Int) tk kn_pick (hM.room hX (by decide)) (hX.gl lk_law_name_law_pick) (ea2_d (ed_var 0 (hX.nm rfl) (hX.vs (vis_c lk_law_name_law_cell_here)) rfl) (ea2_d ed_int (ea2_d ed_int ea2_nil))) trivial)) (fun _ => rfl) c2)) c3) (blk_ok hX (by decide +kernel)) (fun _ _ _ _ _ => (pg_name (i := 2) hX.nd (hX.nm rfl) (blk_lc hX (loc_l (by decide +kernel))) (.inr (blk_lk hX (by decide +kernel))))) (by decide) c10 (fun y4 : Int => ([.d (D.int a0), .d (D.str v1), .d (D.int y4)] : List B)) (fun y4 _ => (show TgD X.K (gName 2) [2] (wipeB ([.d (D.int a0), .d (D.str v1), .un] : List B) [2]) (D.int y4) ([.d (D.int a0), .d (D.str v1), .d (D.int y4)] : List B) from (tg_name 2))) (fun y4 hy5 _ _ _ _ _ => (have ⟨c7, c8⟩ := (c9 y4 hy5); (ed_ixS (ed_var 1 (hX.nm rfl) (blk_vs hX (vis_c (by decide +kernel))) rfl) (ed_okS (z := D.int) (0 : Int) (fun E tk => (es_call (E := E) ((a0, ((31 : Int) + y4), (26 : Int)) : Int × Int × Int) tk kn_pick (hM.room hX (by decide)) (blk_gl hX (by decide +kernel)) (ea2_d (ed_var 0 (hX.nm rfl) (blk_vs hX (vis_c (by decide +kernel))) rfl) (ea2_d (ed_op (od_add _ _) ed_int (ed_var 2 (hX.nm rfl) (blk_vs hX (vis_l (by decide +kernel))) rfl)) (ea2_d ed_int ea2_nil))) trivial)) (fun _ => rfl) c7) (ix_ok (d := 0) c8))))))) c11) rfl)))))))
abbrev sp_name (K : PySem.W.Frag) : Sp := spG K (A := Int) (fun a => [.d (D.int a)]) (fun _ => True) (fun a => rsOf (fun z : (List Nat) => Res.v (D.str z)) (nameF a))
theorem ok_name {P : Program} {w : World} {K : PySem.W.Frag} {mg : Str → Option Value} {base : Heap} {f : Addr} {fd : FuncData} (F : Fun K "_law_name" "_law_name" s_law_name f fd) (m_range : mg "range" = none) (kn_pick : Kn P w K mg base "_law_pick" 1 (sp_pick K)) : FnOk P w K mg base (L2.CX P w) 2 f fd ["_law_cell_here"] (sp_name K) :=
  def_okC (A := Int) F sc_law_name .stk (.inl rfl) (fun _ => rfl) (fun a => c_name a) (fun a X E e1 e2 e3 e4 e5 hX hM => by
    subst e1 e2 e3 e4 e5
    exact bd_name X E hX hM m_range kn_pick a)
abbrev s_law_flags : Stmt := top 21
abbrev nm_law_flags : List Str := ["_law_e", "_law_some"]
theorem sc_law_flags : FnScope nm_law_flags ["_law_e"] (defScope s_law_flags) := ⟨rfl, rfl, rfl, by decide +kernel, rfl, by decide +kernel, by decide +kernel⟩
theorem lk_law_flags_Clash : (defScope s_law_flags).names.lookup ("Clash" : Str) = some .globalImplicit := by decide +kernel
theorem lk_law_flags_Double : (defScope s_law_flags).names.lookup ("Double" : Str) = some .globalImplicit := by decide +kernel
theorem lk_law_flags_Fault : (defScope s_law_flags).names.lookup ("Fault" : Str) = some .globalImplicit := by decide +kernel
theorem lk_law_flags_NoDrop : (defScope s_law_flags).names.lookup ("NoDrop" : Str) = some .globalImplicit := by decide +kernel
theorem lk_law_flags_NoExpr : (defScope s_law_flags).names.lookup ("NoExpr" : Str) = some .globalImplicit := by decide +kernel
theorem lk_law_flags_NoName : (defScope s_law_flags).names.lookup ("NoName" : Str) = some .globalImplicit := by decide +kernel
theorem lk_law_flags_NoPart : (defScope s_law_flags).names.lookup ("NoPart" : Str) = some .globalImplicit := by decide +kernel
theorem lk_law_flags_NoRow : (defScope s_law_flags).names.lookup ("NoRow" : Str) = some .globalImplicit := by decide +kernel
theorem lk_law_flags_NoText : (defScope s_law_flags).names.lookup ("NoText" : Str) = some .globalImplicit := by decide +kernel
theorem lk_law_flags_Orphan : (defScope s_law_flags).names.lookup ("Orphan" : Str) = some .globalImplicit := by decide +kernel
theorem lk_law_flags_TooMany : (defScope s_law_flags).names.lookup ("TooMany" : Str) = some .globalImplicit := by decide +kernel
theorem lk_law_flags_TooWide : (defScope s_law_flags).names.lookup ("TooWide" : Str) = some .globalImplicit := by decide +kernel
theorem lk_law_flags_Twice : (defScope s_law_flags).names.lookup ("Twice" : Str) = some .globalImplicit := by decide +kernel
theorem lk_law_flags_isinstance : (defScope s_law_flags).names.lookup ("isinstance" : Str) = some .globalImplicit := by decide +kernel
theorem lk_law_flags_law_e : (defScope s_law_flags).names.lookup ("_law_e" : Str) = some .local := by decide +kernel
theorem lk_law_flags_law_some : (defScope s_law_flags).names.lookup ("_law_some" : Str) = some .local := by decide +kernel
noncomputable def c_flags (a0 : Exn) : Co Unit Empty (List Bool) := chk (((isx_NoText a0.cls).isSome = true) ∧ ((isx_TooMany a0.cls).isSome = true) ∧ ((isx_Twice a0.cls).isSome = true) ∧ ((isx_Double a0.cls).isSome = true)) (bnd (([((isx_NoText a0.cls).getD false), ((isx_TooMany a0.cls).getD false), ((isx_Twice a0.cls).getD false), ((isx_Double a0.cls).getD false)] : List Bool) : (List Bool)) fun v1 => chk (((isx_Orphan a0.cls).isSome = true) ∧ ((isx_Clash a0.cls).isSome = true) ∧ ((isx_NoRow a0.cls).isSome = true) ∧ ((isx_NoPart a0.cls).isSome = true) ∧ (v1.length + ([((isx_Orphan a0.cls).getD false), ((isx_Clash a0.cls).getD false), ((isx_NoRow a0.cls).getD false), ((isx_NoPart a0.cls).getD false)] : List Bool).length ≤ sizeLine)) (bnd ((v1 ++ ([((isx_Orphan a0.cls).getD false), ((isx_Clash a0.cls).getD false), ((isx_NoRow a0.cls).getD false), ((isx_NoPart a0.cls).getD false)] : List Bool)) : (List Bool)) fun v6 => chk (((isx_NoDrop a0.cls).isSome = true) ∧ ((isx_NoName a0.cls).isSome = true) ∧ ((isx_NoExpr a0.cls).isSome = true) ∧ ((isx_TooWide a0.cls).isSome = true) ∧ (v6.length + ([((isx_NoDrop a0.cls).getD false), ((isx_NoName a0.cls).getD false), ((isx_NoExpr a0.cls).getD false), ((isx_TooWide a0.cls).getD false)] : List Bool).length ≤ sizeLine)) (bnd ((v6 ++ ([((isx_NoDrop a0.cls).getD false), ((isx_NoName a0.cls).getD false), ((isx_NoExpr a0.cls).getD false), ((isx_TooWide a0.cls).getD false)] : List Bool)) : (List Bool)) fun v12 => chk (((isx_Fault a0.cls).isSome = true) ∧ (v12.length + ([((isx_Fault a0.cls).getD false)] : List Bool).length ≤ sizeLine)) (.ret (.ok (v12 ++ ([((isx_Fault a0.cls).getD false)] : List Bool)))))))
noncomputable def flagsF (a0 : Exn) : Out (List Bool) := (c_flags a0).out .stk
theorem bd_flags (X : Cx) (E : XK) (hX : XOk 0 nm_law_flags (defScope s_law_flags) X) (hM : XCm X E) (m_isinstance : X.mg "isinstance" = none) (xi_Clash : ExIC X.K X.mg "Clash" isx_Clash) (xi_Double : ExIC X.K X.mg "Double" isx_Double) (xi_Fault : ExIC X.K X.mg "Fault" isx_Fault) (xi_NoDrop : ExIC X.K X.mg "NoDrop" isx_NoDrop) (xi_NoExpr : ExIC X.K X.mg "NoExpr" isx_NoExpr) (xi_NoName : ExIC X.K X.mg "NoName" isx_NoName) (xi_NoPart : ExIC X.K X.mg "NoPart" isx_NoPart) (xi_NoRow : ExIC X.K X.mg "NoRow" isx_NoRow) (xi_NoText : ExIC X.K X.mg "NoText" isx_NoText) (xi_Orphan : ExIC X.K X.mg "Orphan" isx_Orphan) (xi_TooMany : ExIC X.K X.mg "TooMany" isx_TooMany) (xi_TooWide : ExIC X.K X.mg "TooWide" isx_TooWide) (xi_Twice : ExIC X.K X.mg "Twice" isx_Twice) (a0 : Exn) : BC X E ([.d (D.exv a0.cls a0.fs), .un] : List B) (defBody s_law_flags) (fun s : Unit => List.replicate 2 B.un) (fun s : Empty => nomatch s) (fun z : (List Bool) => Res.o (OO.lst (List.map D.bl z))) (c_flags a0) := by
  unfold c_flags
  exact (c_chk (fun h23 => (have ⟨c2, c3, c4, c5⟩ := h23; (c_setO 1 (fun z : (List Bool) => OO.lst (List.map D.bl z)) hX rfl (loc_l lk_law_flags_law_some) (eo_lst (ea_cons (ed_isV (hX.gl lk_law_flags_isinstance) m_isinstance (ed_var 0 (hX.nm rfl) (hX.vs (vis_l lk_law_flags_law_e)) rfl) (hX.gl lk_law_flags_NoText) xi_NoText c2) (ea_cons (ed_isV (hX.gl lk_law_flags_isinstance) m_isinstance (ed_var 0 (hX.nm rfl) (hX.vs (vis_l lk_law_flags_law_e)) rfl) (hX.gl lk_law_flags_TooMany) xi_TooMany c3) (ea_cons (ed_isV (hX.gl lk_law_flags_isinstance) m_isinstance (ed_var 0 (hX.nm rfl) (hX.vs (vis_l lk_law_flags_law_e)) rfl) (hX.gl lk_law_flags_Twice) xi_Twice c4) (ea_cons (ed_isV (hX.gl lk_law_flags_isinstance) m_isinstance (ed_var 0 (hX.nm rfl) (hX.vs (vis_l lk_law_flags_law_e)) rfl) (hX.gl lk_law_flags_Double) xi_Double c5) ea_nil)))) (by show 4 ≤ sizeLine; decide)) (fun v1 hv1 => (show BC X E ([.d (D.exv a0.cls a0.fs), .own (.lst (List.map D.bl v1))] : List B) _ _ _ _ _ from (c_chk (fun h22 => (have ⟨c7, c8, c9, c10, c11⟩ := h22; (c_setO 1 (fun z : (List Bool) => OO.lst (List.map D.bl z)) hX rfl (loc_l lk_law_flags_law_some) (eo_catM (el_own 1 (hX.nm rfl) (hX.vs (vis_l lk_law_flags_law_some)) rfl) (EvO.el (eo_lst (ea_cons (ed_isV (hX.gl lk_law_flags_isinstance) m_isinstance (ed_var 0 (hX.nm rfl) (hX.vs (vis_l lk_law_flags_law_e)) rfl) (hX.gl lk_law_flags_Orphan) xi_Orphan c7) (ea_cons (ed_isV (hX.gl lk_law_flags_isinstance) m_isinstance (ed_var 0 (hX.nm rfl) (hX.vs (vis_l lk_law_flags_law_e)) rfl) (hX.gl lk_law_flags_Clash) xi_Clash c8) (ea_cons (ed_isV (hX.gl lk_law_flags_isinstance) m_isinstance (ed_var 0 (hX.nm rfl) (hX.vs (vis_l lk_law_flags_law_e)) rfl) (hX.gl lk_law_flags_NoRow) xi_NoRow c9) (ea_cons (ed_isV (hX.gl lk_law_flags_isinstance) m_isinstance (ed_var 0 (hX.nm rfl) (hX.vs (vis_l lk_law_flags_law_e)) rfl) (hX.gl lk_law_flags_NoPart) xi_NoPart c10) ea_nil)))) (by show 4 ≤ sizeLine; decide))) c11) (fun v6 hv6 => (show BC X E ([.d (D.exv a0.cls a0.fs), .own (.lst (List.map D.bl v6))] : List B) _ _ _ _ _ from (c_chk (fun h21 => (have ⟨c13, c14, c15, c16, c17⟩ := h21; (c_setO 1 (fun z : (List Bool) => OO.lst (List.map D.bl z)) hX rfl (loc_l lk_law_flags_law_some) (eo_catM (el_own 1 (hX.nm rfl) (hX.vs (vis_l lk_law_flags_law_some)) rfl) (EvO.el (eo_lst (ea_cons (ed_isV (hX.gl lk_law_flags_isinstance) m_isinstance (ed_var 0 (hX.nm rfl) (hX.vs (vis_l lk_law_flags_law_e)) rfl) (hX.gl lk_law_flags_NoDrop) xi_NoDrop c13) (ea_cons (ed_isV (hX.gl lk_law_flags_isinstance) m_isinstance (ed_var 0 (hX.nm rfl) (hX.vs (vis_l lk_law_flags_law_e)) rfl) (hX.gl lk_law_flags_NoName) xi_NoName c14) (ea_cons (ed_isV (hX.gl lk_law_flags_isinstance) m_isinstance (ed_var 0 (hX.nm rfl) (hX.vs (vis_l lk_law_flags_law_e)) rfl) (hX.gl lk_law_flags_NoExpr) xi_NoExpr c15) (ea_cons (ed_isV (hX.gl lk_law_flags_isinstance) m_isinstance (ed_var 0 (hX.nm rfl) (hX.vs (vis_l lk_law_flags_law_e)) rfl) (hX.gl lk_law_flags_TooWide) xi_TooWide c16) ea_nil)))) (by show 4 ≤ sizeLine; decide))) c17) (fun v12 hv12 => (show BC X E ([.d (D.exv a0.cls a0.fs), .own (.lst (List.map D.bl v12))] : List B) _ _ _ _ _ from (c_chk (fun h20 => (have ⟨c18, c19⟩ := h20; (c_retO (eo_catM (el_own 1 (hX.nm rfl) (hX.vs (vis_l lk_law_flags_law_some)) rfl) (EvO.el (eo_lst (ea_cons (ed_isV (hX.gl lk_law_flags_isinstance) m_isinstance (ed_var 0 (hX.nm rfl) (hX.vs (vis_l lk_law_flags_law_e)) rfl) (hX.gl lk_law_flags_Fault) xi_Fault c18) ea_nil) (by show 1 ≤ sizeLine; decide))) c19) rfl))))))))))))))))))))))
abbrev sp_flags (K : PySem.W.Frag) : Sp := spG K (A := Exn) (fun a => [.d (D.exv a.cls a.fs)]) (fun _ => True) (fun a => rsOf (fun z : (List Bool) => Res.o (OO.lst (List.map D.bl z))) (flagsF a))
theorem ok_flags {P : Program} {w : World} {K : PySem.W.Frag} {mg : Str → Option Value} {base : Heap} {f : Addr} {fd : FuncData} (F : Fun K "_law_flags" "_law_flags" s_law_flags f fd) (m_isinstance : mg "isinstance" = none) (xi_Clash : ExIC K mg "Clash" isx_Clash) (xi_Double : ExIC K mg "Double" isx_Double) (xi_Fault : ExIC K mg "Fault" isx_Fault) (xi_NoDrop : ExIC K mg "NoDrop" isx_NoDrop) (xi_NoExpr : ExIC K mg "NoExpr" isx_NoExpr) (xi_NoName : ExIC K mg "NoName" isx_NoName) (xi_NoPart : ExIC K mg "NoPart" isx_NoPart) (xi_NoRow : ExIC K mg "NoRow" isx_NoRow) (xi_NoText : ExIC K mg "NoText" isx_NoText) (xi_Orphan : ExIC K mg "Orphan" isx_Orphan) (xi_TooMany : ExIC K mg "TooMany" isx_TooMany) (xi_TooWide : ExIC K mg "TooWide" isx_TooWide) (xi_Twice : ExIC K mg "Twice" isx_Twice) : FnOk P w K mg base (L2.CX P w) 1 f fd ["_law_e"] (sp_flags K) :=
  def_okC (A := Exn) F sc_law_flags .stk (.inl rfl) (fun _ => rfl) (fun a => c_flags a) (fun a X E e1 e2 e3 e4 e5 hX hM => by
    subst e1 e2 e3 e4 e5
    exact bd_flags X E hX hM m_isinstance xi_Clash xi_Double xi_Fault xi_NoDrop xi_NoExpr xi_NoName xi_NoPart xi_NoRow xi_NoText xi_Orphan xi_TooMany xi_TooWide xi_Twice a)
abbrev s_law_placed : Stmt := top 22
abbrev nm_law_placed : List Str := ["_law_way", "_law_at"]
theorem sc_law_placed : FnScope nm_law_placed ["_law_way", "_law_at"] (defScope s_law_placed) := ⟨rfl, rfl, rfl, by decide +kernel, rfl, by decide +kernel, by decide +kernel⟩
theorem lk_law_placed_Clash : (defScope s_law_placed).names.lookup ("Clash" : Str) = some .globalImplicit := by decide +kernel
theorem lk_law_placed_Double : (defScope s_law_placed).names.lookup ("Double" : Str) = some .globalImplicit := by decide +kernel
theorem lk_law_placed_NoRow : (defScope s_law_placed).names.lookup ("NoRow" : Str) = some .globalImplicit := by decide +kernel
theorem lk_law_placed_NoText : (defScope s_law_placed).names.lookup ("NoText" : Str) = some .globalImplicit := by decide +kernel
theorem lk_law_placed_Orphan : (defScope s_law_placed).names.lookup ("Orphan" : Str) = some .globalImplicit := by decide +kernel
theorem lk_law_placed_TooMany : (defScope s_law_placed).names.lookup ("TooMany" : Str) = some .globalImplicit := by decide +kernel
theorem lk_law_placed_Twice : (defScope s_law_placed).names.lookup ("Twice" : Str) = some .globalImplicit := by decide +kernel
theorem lk_law_placed_law_at : (defScope s_law_placed).names.lookup ("_law_at" : Str) = some .local := by decide +kernel
theorem lk_law_placed_law_way : (defScope s_law_placed).names.lookup ("_law_way" : Str) = some .local := by decide +kernel
noncomputable def c_placed (a0 : Int) (a1 : Int) : Co Unit Empty Exn := if (decide (a0 = (0 : Int))) = true then Co.up (.ret (.ok (⟨"NoText", xNoText a1⟩ : Exn))) else if (decide (a0 = (1 : Int))) = true then Co.up (.ret (.ok (⟨"TooMany", xTooMany a1⟩ : Exn))) else if (decide (a0 = (2 : Int))) = true then Co.up (.ret (.ok (⟨"Twice", xTwice a1⟩ : Exn))) else if (decide (a0 = (3 : Int))) = true then Co.up (.ret (.ok (⟨"Double", xDouble a1⟩ : Exn))) else if (decide (a0 = (4 : Int))) = true then Co.up (.ret (.ok (⟨"Orphan", xOrphan a1⟩ : Exn))) else if (decide (a0 = (5 : Int))) = true then Co.up (.ret (.ok (⟨"Clash", xClash a1⟩ : Exn))) else .ret (.ok (⟨"NoRow", xNoRow a1⟩ : Exn))
noncomputable def placedF (a0 : Int) (a1 : Int) : Out Exn := (c_placed a0 a1).out .stk
theorem bd_placed (X : Cx) (E : XK) (hX : XOk 2 nm_law_placed (defScope s_law_placed) X) (hM : XCm X E) (kn_Clash_init : MkXX X "Clash" 1 (sp_Clash_init X.K)) (kn_Double_init : MkXX X "Double" 1 (sp_Double_init X.K)) (kn_NoRow_init : MkXX X "NoRow" 1 (sp_NoRow_init X.K)) (kn_NoText_init : MkXX X "NoText" 1 (sp_NoText_init X.K)) (kn_Orphan_init : MkXX X "Orphan" 1 (sp_Orphan_init X.K)) (kn_TooMany_init : MkXX X "TooMany" 1 (sp_TooMany_init X.K)) (kn_Twice_init : MkXX X "Twice" 1 (sp_Twice_init X.K)) (a0 : Int) (a1 : Int) : BC X E ([.d (D.int a0), .d (D.int a1)] : List B) (defBody s_law_placed) (fun s : Unit => List.replicate 2 B.un) (fun s : Empty => nomatch s) (fun z : Exn => Res.v (D.exv z.cls z.fs)) (c_placed a0 a1) := by
  unfold c_placed
  exact (c_ifr (et_cmp (od_eqI _ _) (ed_var 0 (hX.nm rfl) (hX.vs (vis_l lk_law_placed_law_way)) rfl) ed_int) (fun h1 => (c_ret (ed_mkX (lv := 1) a1 kn_NoText_init (hM.room hX (by decide)) (hX.gl lk_law_placed_NoText) (ea2_d (ed_var 1 (hX.nm rfl) (hX.vs (vis_l lk_law_placed_law_at)) rfl) ea2_nil) (by show 1 ≤ 900; decide) (by unfold xNoText; simp)) rfl)) (fun h1 => (c_ifr (et_cmp (od_eqI _ _) (ed_var 0 (hX.nm rfl) (hX.vs (vis_l lk_law_placed_law_way)) rfl) ed_int) (fun h2 => (c_ret (ed_mkX (lv := 1) a1 kn_TooMany_init (hM.room hX (by decide)) (hX.gl lk_law_placed_TooMany) (ea2_d (ed_var 1 (hX.nm rfl) (hX.vs (vis_l lk_law_placed_law_at)) rfl) ea2_nil) (by show 1 ≤ 900; decide) (by unfold xTooMany; simp)) rfl)) (fun h2 => (c_ifr (et_cmp (od_eqI _ _) (ed_var 0 (hX.nm rfl) (hX.vs (vis_l lk_law_placed_law_way)) rfl) ed_int) (fun h3 => (c_ret (ed_mkX (lv := 1) a1 kn_Twice_init (hM.room hX (by decide)) (hX.gl lk_law_placed_Twice) (ea2_d (ed_var 1 (hX.nm rfl) (hX.vs (vis_l lk_law_placed_law_at)) rfl) ea2_nil) (by show 1 ≤ 900; decide) (by unfold xTwice; simp)) rfl)) (fun h3 => (c_ifr (et_cmp (od_eqI _ _) (ed_var 0 (hX.nm rfl) (hX.vs (vis_l lk_law_placed_law_way)) rfl) ed_int) (fun h4 => (c_ret (ed_mkX (lv := 1) a1 kn_Double_init (hM.room hX (by decide)) (hX.gl lk_law_placed_Double) (ea2_d (ed_var 1 (hX.nm rfl) (hX.vs (vis_l lk_law_placed_law_at)) rfl) ea2_nil) (by show 1 ≤ 900; decide) (by unfold xDouble; simp)) rfl)) (fun h4 => (c_ifr (et_cmp (od_eqI _ _) (ed_var 0 (hX.nm rfl) (hX.vs (vis_l lk_law_placed_law_way)) rfl) ed_int) (fun h5 => (c_ret (ed_mkX (lv := 1) a1 kn_Orphan_init (hM.room hX (by decide)) (hX.gl lk_law_placed_Orphan) (ea2_d (ed_var 1 (hX.nm rfl) (hX.vs (vis_l lk_law_placed_law_at)) rfl) ea2_nil) (by show 1 ≤ 900; decide) (by unfold xOrphan; simp)) rfl)) (fun h5 => (c_ifr (et_cmp (od_eqI _ _) (ed_var 0 (hX.nm rfl) (hX.vs (vis_l lk_law_placed_law_way)) rfl) ed_int) (fun h6 => (c_ret (ed_mkX (lv := 1) a1 kn_Clash_init (hM.room hX (by decide)) (hX.gl lk_law_placed_Clash) (ea2_d (ed_var 1 (hX.nm rfl) (hX.vs (vis_l lk_law_placed_law_at)) rfl) ea2_nil) (by show 1 ≤ 900; decide) (by unfold xClash; simp)) rfl)) (fun h6 => (c_ret (ed_mkX (lv := 1) a1 kn_NoRow_init (hM.room hX (by decide)) (hX.gl lk_law_placed_NoRow) (ea2_d (ed_var 1 (hX.nm rfl) (hX.vs (vis_l lk_law_placed_law_at)) rfl) ea2_nil) (by show 1 ≤ 900; decide) (by unfold xNoRow; simp)) rfl)))))))))))))
abbrev sp_placed (K : PySem.W.Frag) : Sp := spG K (A := Int × Int) (fun a => [.d (D.int a.1), .d (D.int a.2)]) (fun _ => True) (fun a => rsOf (fun z : Exn => Res.v (D.exv z.cls z.fs)) (placedF a.1 a.2))
theorem ok_placed {P : Program} {w : World} {K : PySem.W.Frag} {mg : Str → Option Value} {base : Heap} {f : Addr} {fd : FuncData} (F : Fun K "_law_placed" "_law_placed" s_law_placed f fd) (kn_Clash_init : MkrX P w K mg base "Clash" 1 (sp_Clash_init K)) (kn_Double_init : MkrX P w K mg base "Double" 1 (sp_Double_init K)) (kn_NoRow_init : MkrX P w K mg base "NoRow" 1 (sp_NoRow_init K)) (kn_NoText_init : MkrX P w K mg base "NoText" 1 (sp_NoText_init K)) (kn_Orphan_init : MkrX P w K mg base "Orphan" 1 (sp_Orphan_init K)) (kn_TooMany_init : MkrX P w K mg base "TooMany" 1 (sp_TooMany_init K)) (kn_Twice_init : MkrX P w K mg base "Twice" 1 (sp_Twice_init K)) : FnOk P w K mg base (L2.CX P w) 3 f fd ["_law_way", "_law_at"] (sp_placed K) :=
  def_okC (A := Int × Int) F sc_law_placed .stk (.inl rfl) (fun _ => rfl) (fun a => c_placed a.1 a.2) (fun a X E e1 e2 e3 e4 e5 hX hM => by
    subst e1 e2 e3 e4 e5
    exact bd_placed X E hX hM kn_Clash_init kn_Double_init kn_NoRow_init kn_NoText_init kn_Orphan_init kn_TooMany_init kn_Twice_init a.1 a.2)
abbrev s_law_worded : Stmt := top 23
abbrev nm_law_worded : List Str := ["_law_way", "_law_word"]
theorem sc_law_worded : FnScope nm_law_worded ["_law_way", "_law_word"] (defScope s_law_worded) := ⟨rfl, rfl, rfl, by decide +kernel, rfl, by decide +kernel, by decide +kernel⟩
theorem lk_law_worded_HouseError : (defScope s_law_worded).names.lookup ("HouseError" : Str) = some .globalImplicit := by decide +kernel
theorem lk_law_worded_NoDrop : (defScope s_law_worded).names.lookup ("NoDrop" : Str) = some .globalImplicit := by decide +kernel
theorem lk_law_worded_NoExpr : (defScope s_law_worded).names.lookup ("NoExpr" : Str) = some .globalImplicit := by decide +kernel
theorem lk_law_worded_NoName : (defScope s_law_worded).names.lookup ("NoName" : Str) = some .globalImplicit := by decide +kernel
theorem lk_law_worded_NoPart : (defScope s_law_worded).names.lookup ("NoPart" : Str) = some .globalImplicit := by decide +kernel
theorem lk_law_worded_TooWide : (defScope s_law_worded).names.lookup ("TooWide" : Str) = some .globalImplicit := by decide +kernel
theorem lk_law_worded_law_way : (defScope s_law_worded).names.lookup ("_law_way" : Str) = some .local := by decide +kernel
theorem lk_law_worded_law_word : (defScope s_law_worded).names.lookup ("_law_word" : Str) = some .local := by decide +kernel
noncomputable def c_worded (a0 : Int) (a1 : (List Nat)) : Co Unit Empty Exn := if (decide (a0 = (7 : Int))) = true then Co.up (.ret (.ok (⟨"NoPart", xNoPart a1⟩ : Exn))) else if (decide (a0 = (8 : Int))) = true then Co.up (.ret (.ok (⟨"NoDrop", xNoDrop a1⟩ : Exn))) else if (decide (a0 = (9 : Int))) = true then Co.up (.ret (.ok (⟨"NoName", xNoName a1⟩ : Exn))) else if (decide (a0 = (10 : Int))) = true then Co.up (.ret (.ok (⟨"NoExpr", []⟩ : Exn))) else if (decide (a0 = (11 : Int))) = true then Co.up (.ret (.ok (⟨"TooWide", []⟩ : Exn))) else .ret (.ok (⟨"HouseError", []⟩ : Exn))
noncomputable def wordedF (a0 : Int) (a1 : (List Nat)) : Out Exn := (c_worded a0 a1).out .stk
theorem bd_worded (X : Cx) (E : XK) (hX : XOk 2 nm_law_worded (defScope s_law_worded) X) (hM : XCm X E) (x_HouseError : ExC X.K X.mg "HouseError") (x_NoExpr : ExC X.K X.mg "NoExpr") (x_TooWide : ExC X.K X.mg "TooWide") (kn_NoDrop_init : MkXX X "NoDrop" 1 (sp_NoDrop_init X.K)) (kn_NoName_init : MkXX X "NoName" 1 (sp_NoName_init X.K)) (kn_NoPart_init : MkXX X "NoPart" 1 (sp_NoPart_init X.K)) (a0 : Int) (a1 : (List Nat)) : BC X E ([.d (D.int a0), .d (D.str a1)] : List B) (defBody s_law_worded) (fun s : Unit => List.replicate 2 B.un) (fun s : Empty => nomatch s) (fun z : Exn => Res.v (D.exv z.cls z.fs)) (c_worded a0 a1) := by
  unfold c_worded
  exact (c_ifr (et_cmp (od_eqI _ _) (ed_var 0 (hX.nm rfl) (hX.vs (vis_l lk_law_worded_law_way)) rfl) ed_int) (fun h1 => (c_ret (ed_mkX (lv := 1) a1 kn_NoPart_init (hM.room hX (by decide)) (hX.gl lk_law_worded_NoPart) (ea2_d (ed_var 1 (hX.nm rfl) (hX.vs (vis_l lk_law_worded_law_word)) rfl) ea2_nil) (by show 1 ≤ 900; decide) (by unfold xNoPart; simp)) rfl)) (fun h1 => (c_ifr (et_cmp (od_eqI _ _) (ed_var 0 (hX.nm rfl) (hX.vs (vis_l lk_law_worded_law_way)) rfl) ed_int) (fun h2 => (c_ret (ed_mkX (lv := 1) a1 kn_NoDrop_init (hM.room hX (by decide)) (hX.gl lk_law_worded_NoDrop) (ea2_d (ed_var 1 (hX.nm rfl) (hX.vs (vis_l lk_law_worded_law_word)) rfl) ea2_nil) (by show 1 ≤ 900; decide) (by unfold xNoDrop; simp)) rfl)) (fun h2 => (c_ifr (et_cmp (od_eqI _ _) (ed_var 0 (hX.nm rfl) (hX.vs (vis_l lk_law_worded_law_way)) rfl) ed_int) (fun h3 => (c_ret (ed_mkX (lv := 1) a1 kn_NoName_init (hM.room hX (by decide)) (hX.gl lk_law_worded_NoName) (ea2_d (ed_var 1 (hX.nm rfl) (hX.vs (vis_l lk_law_worded_law_word)) rfl) ea2_nil) (by show 1 ≤ 900; decide) (by unfold xNoName; simp)) rfl)) (fun h3 => (c_ifr (et_cmp (od_eqI _ _) (ed_var 0 (hX.nm rfl) (hX.vs (vis_l lk_law_worded_law_way)) rfl) ed_int) (fun h4 => (c_ret (ed_mkX0 x_NoExpr (hX.gl lk_law_worded_NoExpr) (ed_var 1 (hX.nm rfl) (hX.vs (vis_l lk_law_worded_law_word)) rfl)) rfl)) (fun h4 => (c_ifr (et_cmp (od_eqI _ _) (ed_var 0 (hX.nm rfl) (hX.vs (vis_l lk_law_worded_law_way)) rfl) ed_int) (fun h5 => (c_ret (ed_mkX0 x_TooWide (hX.gl lk_law_worded_TooWide) (ed_var 1 (hX.nm rfl) (hX.vs (vis_l lk_law_worded_law_word)) rfl)) rfl)) (fun h5 => (c_ret (ed_mkX0 x_HouseError (hX.gl lk_law_worded_HouseError) (ed_var 1 (hX.nm rfl) (hX.vs (vis_l lk_law_worded_law_word)) rfl)) rfl)))))))))))
abbrev sp_worded (K : PySem.W.Frag) : Sp := spG K (A := Int × (List Nat)) (fun a => [.d (D.int a.1), .d (D.str a.2)]) (fun _ => True) (fun a => rsOf (fun z : Exn => Res.v (D.exv z.cls z.fs)) (wordedF a.1 a.2))
theorem ok_worded {P : Program} {w : World} {K : PySem.W.Frag} {mg : Str → Option Value} {base : Heap} {f : Addr} {fd : FuncData} (F : Fun K "_law_worded" "_law_worded" s_law_worded f fd) (x_HouseError : ExC K mg "HouseError") (x_NoExpr : ExC K mg "NoExpr") (x_TooWide : ExC K mg "TooWide") (kn_NoDrop_init : MkrX P w K mg base "NoDrop" 1 (sp_NoDrop_init K)) (kn_NoName_init : MkrX P w K mg base "NoName" 1 (sp_NoName_init K)) (kn_NoPart_init : MkrX P w K mg base "NoPart" 1 (sp_NoPart_init K)) : FnOk P w K mg base (L2.CX P w) 3 f fd ["_law_way", "_law_word"] (sp_worded K) :=
  def_okC (A := Int × (List Nat)) F sc_law_worded .stk (.inl rfl) (fun _ => rfl) (fun a => c_worded a.1 a.2) (fun a X E e1 e2 e3 e4 e5 hX hM => by
    subst e1 e2 e3 e4 e5
    exact bd_worded X E hX hM x_HouseError x_NoExpr x_TooWide kn_NoDrop_init kn_NoName_init kn_NoPart_init a.1 a.2)
abbrev s_law_keeps : Stmt := top 24
abbrev nm_law_keeps : List Str := ["_law_e", "_law_way", "_law_at", "_law_word"]
theorem sc_law_keeps : FnScope nm_law_keeps ["_law_e", "_law_way", "_law_at", "_law_word"] (defScope s_law_keeps) := ⟨rfl, rfl, rfl, by decide +kernel, rfl, by decide +kernel, by decide +kernel⟩
theorem lk_law_keeps_bool : (defScope s_law_keeps).names.lookup ("bool" : Str) = some .globalImplicit := by decide +kernel
theorem lk_law_keeps_int : (defScope s_law_keeps).names.lookup ("int" : Str) = some .globalImplicit := by decide +kernel
theorem lk_law_keeps_isinstance : (defScope s_law_keeps).names.lookup ("isinstance" : Str) = some .globalImplicit := by decide +kernel
theorem lk_law_keeps_law_at : (defScope s_law_keeps).names.lookup ("_law_at" : Str) = some .local := by decide +kernel
theorem lk_law_keeps_law_e : (defScope s_law_keeps).names.lookup ("_law_e" : Str) = some .local := by decide +kernel
theorem lk_law_keeps_law_way : (defScope s_law_keeps).names.lookup ("_law_way" : Str) = some .local := by decide +kernel
theorem lk_law_keeps_law_word : (defScope s_law_keeps).names.lookup ("_law_word" : Str) = some .local := by decide +kernel
theorem lk_law_keeps_str : (defScope s_law_keeps).names.lookup ("str" : Str) = some .globalImplicit := by decide +kernel
noncomputable def c_keeps (a0 : Exn) (a1 : Int) (a2 : Int) (a3 : (List Nat)) : Co Unit Empty Bool := if (decide (a1 < (7 : Int))) = true then Co.up (chk ((exf_at a0.cls = true) ∧ ((a0.fs.lookup ("at" : Str)).isSome = true) ∧ (isI ((a0.fs.lookup ("at" : Str)).getD .non) = true) ∧ (true = true → (exf_at a0.cls = true) ∧ ((a0.fs.lookup ("at" : Str)).isSome = true) ∧ (isI ((a0.fs.lookup ("at" : Str)).getD .non) = true) ∧ ((!false) = true → (exf_at a0.cls = true) ∧ ((a0.fs.lookup ("at" : Str)).isSome = true) ∧ (isI ((a0.fs.lookup ("at" : Str)).getD .non) = true)))) (.ret (.ok (true && ((!false) && (decide ((asI ((a0.fs.lookup ("at" : Str)).getD .non)) = a2))))))) else if (decide (a1 < (9 : Int))) = true then Co.up (chk ((exf_address a0.cls = true) ∧ ((a0.fs.lookup ("address" : Str)).isSome = true) ∧ (isS ((a0.fs.lookup ("address" : Str)).getD .non) = true) ∧ (true = true → (exf_address a0.cls = true) ∧ ((a0.fs.lookup ("address" : Str)).isSome = true) ∧ (isS ((a0.fs.lookup ("address" : Str)).getD .non) = true))) (.ret (.ok (true && (decide ((asS ((a0.fs.lookup ("address" : Str)).getD .non)) = a3)))))) else chk (((!(decide (a1 = (9 : Int)))) = false → (exf_name a0.cls = true) ∧ ((a0.fs.lookup ("name" : Str)).isSome = true) ∧ (isS ((a0.fs.lookup ("name" : Str)).getD .non) = true) ∧ (true = true → (exf_name a0.cls = true) ∧ ((a0.fs.lookup ("name" : Str)).isSome = true) ∧ (isS ((a0.fs.lookup ("name" : Str)).getD .non) = true)))) (.ret (.ok ((!(decide (a1 = (9 : Int)))) || (true && (decide ((asS ((a0.fs.lookup ("name" : Str)).getD .non)) = a3))))))
noncomputable def keepsF (a0 : Exn) (a1 : Int) (a2 : Int) (a3 : (List Nat)) : Out Bool := (c_keeps a0 a1 a2 a3).out .stk
theorem bd_keeps (X : Cx) (E : XK) (hX : XOk 0 nm_law_keeps (defScope s_law_keeps) X) (hM : XCm X E) (m_bool : X.mg "bool" = none) (m_int : X.mg "int" = none) (m_isinstance : X.mg "isinstance" = none) (m_str : X.mg "str" = none) (xf_address : ExF X.K "address" exf_address) (xf_at : ExF X.K "at" exf_at) (xf_name : ExF X.K "name" exf_name) (a0 : Exn) (a1 : Int) (a2 : Int) (a3 : (List Nat)) : BC X E ([.d (D.exv a0.cls a0.fs), .d (D.int a1), .d (D.int a2), .d (D.str a3)] : List B) (defBody s_law_keeps) (fun s : Unit => List.replicate 4 B.un) (fun s : Empty => nomatch s) (fun z : Bool => Res.v (D.bl z)) (c_keeps a0 a1 a2 a3) := by
  unfold c_keeps
  exact (c_ifr (et_cmp (od_lt _ _) (ed_var 1 (hX.nm rfl) (hX.vs (vis_l lk_law_keeps_law_way)) rfl) ed_int) (fun h1 => (c_chk (fun h15 => (have ⟨c2, c3, c4, c14⟩ := h15; (c_ret (ed_and (ed_isi (hX.gl lk_law_keeps_isinstance) m_isinstance (ed_cast (asI_ok c4) (ed_fldV (ed_var 0 (hX.nm rfl) (hX.vs (vis_l lk_law_keeps_law_e)) rfl) xf_at c2 c3)) (ed_ty (n := "int") (hX.gl lk_law_keeps_int) m_int (by decide +kernel)) rfl (by decide +kernel)) (fun h13 => (have ⟨c5, c6, c7, c12⟩ := (c14 h13); (ed_and (ed_not (ed_isi (hX.gl lk_law_keeps_isinstance) m_isinstance (ed_cast (asI_ok c7) (ed_fldV (ed_var 0 (hX.nm rfl) (hX.vs (vis_l lk_law_keeps_law_e)) rfl) xf_at c5 c6)) (ed_ty (n := "bool") (hX.gl lk_law_keeps_bool) m_bool (by decide +kernel)) rfl (by decide +kernel))) (fun h11 => (have ⟨c8, c9, c10⟩ := (c12 h11); (ed_one (ed_cmp (od_eqI _ _) (ed_cast (asI_ok c10) (ed_fldV (ed_var 0 (hX.nm rfl) (hX.vs (vis_l lk_law_keeps_law_e)) rfl) xf_at c8 c9)) (ed_var 2 (hX.nm rfl) (hX.vs (vis_l lk_law_keeps_law_at)) rfl))))))))) rfl))))) (fun h1 => (c_ifr (et_cmp (od_lt _ _) (ed_var 1 (hX.nm rfl) (hX.vs (vis_l lk_law_keeps_law_way)) rfl) ed_int) (fun h16 => (c_chk (fun h25 => (have ⟨c17, c18, c19, c24⟩ := h25; (c_ret (ed_and (ed_isi (hX.gl lk_law_keeps_isinstance) m_isinstance (ed_cast (asS_ok c19) (ed_fldV (ed_var 0 (hX.nm rfl) (hX.vs (vis_l lk_law_keeps_law_e)) rfl) xf_address c17 c18)) (ed_ty (n := "str") (hX.gl lk_law_keeps_str) m_str (by decide +kernel)) rfl (by decide +kernel)) (fun h23 => (have ⟨c20, c21, c22⟩ := (c24 h23); (ed_one (ed_cmp (od_eqS _ _) (ed_cast (asS_ok c22) (ed_fldV (ed_var 0 (hX.nm rfl) (hX.vs (vis_l lk_law_keeps_law_e)) rfl) xf_address c20 c21)) (ed_var 3 (hX.nm rfl) (hX.vs (vis_l lk_law_keeps_law_word)) rfl)))))) rfl))))) (fun h16 => (c_chk (fun h36 => (have c35 := h36; (c_ret (ed_or (ed_cmp (od_neI _ _) (ed_var 1 (hX.nm rfl) (hX.vs (vis_l lk_law_keeps_law_way)) rfl) ed_int) (fun h34 => (have ⟨c26, c27, c28, c33⟩ := (c35 h34); (ed_one (ed_and (ed_isi (hX.gl lk_law_keeps_isinstance) m_isinstance (ed_cast (asS_ok c28) (ed_fldV (ed_var 0 (hX.nm rfl) (hX.vs (vis_l lk_law_keeps_law_e)) rfl) xf_name c26 c27)) (ed_ty (n := "str") (hX.gl lk_law_keeps_str) m_str (by decide +kernel)) rfl (by decide +kernel)) (fun h32 => (have ⟨c29, c30, c31⟩ := (c33 h32); (ed_one (ed_cmp (od_eqS _ _) (ed_cast (asS_ok c31) (ed_fldV (ed_var 0 (hX.nm rfl) (hX.vs (vis_l lk_law_keeps_law_e)) rfl) xf_name c29 c30)) (ed_var 3 (hX.nm rfl) (hX.vs (vis_l lk_law_keeps_law_word)) rfl)))))))))) rfl))))))))
abbrev sp_keeps (K : PySem.W.Frag) : Sp := spG K (A := Exn × Int × Int × (List Nat)) (fun a => [.d (D.exv a.1.cls a.1.fs), .d (D.int a.2.1), .d (D.int a.2.2.1), .d (D.str a.2.2.2)]) (fun _ => True) (fun a => rsOf (fun z : Bool => Res.v (D.bl z)) (keepsF a.1 a.2.1 a.2.2.1 a.2.2.2))
theorem ok_keeps {P : Program} {w : World} {K : PySem.W.Frag} {mg : Str → Option Value} {base : Heap} {f : Addr} {fd : FuncData} (F : Fun K "_law_keeps" "_law_keeps" s_law_keeps f fd) (m_bool : mg "bool" = none) (m_int : mg "int" = none) (m_isinstance : mg "isinstance" = none) (m_str : mg "str" = none) (xf_address : ExF K "address" exf_address) (xf_at : ExF K "at" exf_at) (xf_name : ExF K "name" exf_name) : FnOk P w K mg base (L2.CX P w) 1 f fd ["_law_e", "_law_way", "_law_at", "_law_word"] (sp_keeps K) :=
  def_okC (A := Exn × Int × Int × (List Nat)) F sc_law_keeps .stk (.inl rfl) (fun _ => rfl) (fun a => c_keeps a.1 a.2.1 a.2.2.1 a.2.2.2) (fun a X E e1 e2 e3 e4 e5 hX hM => by
    subst e1 e2 e3 e4 e5
    exact bd_keeps X E hX hM m_bool m_int m_isinstance m_str xf_address xf_at xf_name a.1 a.2.1 a.2.2.1 a.2.2.2)
abbrev s_law_fault : Stmt := top 25
abbrev nm_law_fault : List Str := ["_law_cell_here", "_law_trail", "_law_word", "_law_handed", "_law_e", "_law_other", "_law_flags_here", "_law_k"]
theorem sc_law_fault : FnScope nm_law_fault ["_law_cell_here"] (defScope s_law_fault) := ⟨rfl, rfl, rfl, by decide +kernel, rfl, by decide +kernel, by decide +kernel⟩
theorem lk_law_fault_Fault : (defScope s_law_fault).names.lookup ("Fault" : Str) = some .globalImplicit := by decide +kernel
theorem lk_law_fault_HouseError : (defScope s_law_fault).names.lookup ("HouseError" : Str) = some .globalImplicit := by decide +kernel
theorem lk_law_fault_ValueError : (defScope s_law_fault).names.lookup ("ValueError" : Str) = some .globalImplicit := by decide +kernel
theorem lk_law_fault_isinstance : (defScope s_law_fault).names.lookup ("isinstance" : Str) = some .globalImplicit := by decide +kernel
theorem lk_law_fault_law_cell_here : (defScope s_law_fault).names.lookup ("_law_cell_here" : Str) = some .cell := by decide +kernel
theorem lk_law_fault_law_e : (defScope s_law_fault).names.lookup ("_law_e" : Str) = some .local := by decide +kernel
theorem lk_law_fault_law_flags : (defScope s_law_fault).names.lookup ("_law_flags" : Str) = some .globalImplicit := by decide +kernel
theorem lk_law_fault_law_flags_here : (defScope s_law_fault).names.lookup ("_law_flags_here" : Str) = some .local := by decide +kernel
theorem lk_law_fault_law_handed : (defScope s_law_fault).names.lookup ("_law_handed" : Str) = some .local := by decide +kernel
theorem lk_law_fault_law_name : (defScope s_law_fault).names.lookup ("_law_name" : Str) = some .globalImplicit := by decide +kernel
theorem lk_law_fault_law_other : (defScope s_law_fault).names.lookup ("_law_other" : Str) = some .local := by decide +kernel
theorem lk_law_fault_law_pick : (defScope s_law_fault).names.lookup ("_law_pick" : Str) = some .globalImplicit := by decide +kernel
theorem lk_law_fault_law_sub : (defScope s_law_fault).names.lookup ("_law_sub" : Str) = some .globalImplicit := by decide +kernel
theorem lk_law_fault_law_trail : (defScope s_law_fault).names.lookup ("_law_trail" : Str) = some .local := by decide +kernel
theorem lk_law_fault_law_word : (defScope s_law_fault).names.lookup ("_law_word" : Str) = some .local := by decide +kernel
theorem lk_law_fault_list : (defScope s_law_fault).names.lookup ("list" : Str) = some .globalImplicit := by decide +kernel
theorem lk_law_fault_range : (defScope s_law_fault).names.lookup ("range" : Str) = some .globalImplicit := by decide +kernel
noncomputable def c_fault (a0 : Int) : Co Unit Empty Bool := chk ((((pickF a0 (9 : Int) (4 : Int))).IsOk) ∧ (-(2 ^ 62) ≤ ((pickF a0 (9 : Int) (4 : Int)).get (0 : Int)) ∧ ((pickF a0 (9 : Int) (4 : Int)).get (0 : Int)) < 2 ^ 62) ∧ (∀ y4 ∈ (rints 0 (((pickF a0 (9 : Int) (4 : Int)).get (0 : Int))).toNat), (((subF a0 y4)).IsOk) ∧ (((nameF ((subF a0 y4).get (0 : Int)))).IsOk) ∧ (((pickF a0 ((2 : Int) + y4) (12 : Int))).IsOk)) ∧ ((rints 0 (((pickF a0 (9 : Int) (4 : Int)).get (0 : Int))).toNat).length < sizeLine)) (bnd ((List.map (fun y4 : Int => (((nameF ((subF a0 y4).get (0 : Int))).get []), ((pickF a0 ((2 : Int) + y4) (12 : Int)).get (0 : Int)))) (rints 0 (((pickF a0 (9 : Int) (4 : Int)).get (0 : Int))).toNat)) : (List ((List Nat) × Int))) fun v1 => chk ((((pickF a0 (1 : Int) (6 : Int))).IsOk) ∧ (-((([([117, 110, 107, 110, 111, 119, 110] : List Nat), ([117, 110, 102, 105, 108, 108, 101, 100] : List Nat), ([109, 105, 115, 115, 105, 110, 103] : List Nat), ([110, 111, 112, 97, 114, 116] : List Nat), ([110, 111, 100, 101, 101, 100] : List Nat), ([110, 111, 110, 117, 109, 98, 101, 114] : List Nat)] : List (List Nat))).length : Int) ≤ ((pickF a0 (1 : Int) (6 : Int)).get (0 : Int)) ∧ ((pickF a0 (1 : Int) (6 : Int)).get (0 : Int)) < ((([([117, 110, 107, 110, 111, 119, 110] : List Nat), ([117, 110, 102, 105, 108, 108, 101, 100] : List Nat), ([109, 105, 115, 115, 105, 110, 103] : List Nat), ([110, 111, 112, 97, 114, 116] : List Nat), ([110, 111, 100, 101, 101, 100] : List Nat), ([110, 111, 110, 117, 109, 98, 101, 114] : List Nat)] : List (List Nat))).length : Int))) (bnd ((ix ([([117, 110, 107, 110, 111, 119, 110] : List Nat), ([117, 110, 102, 105, 108, 108, 101, 100] : List Nat), ([109, 105, 115, 115, 105, 110, 103] : List Nat), ([110, 111, 112, 97, 114, 116] : List Nat), ([110, 111, 100, 101, 101, 100] : List Nat), ([110, 111, 110, 117, 109, 98, 101, 114] : List Nat)] : List (List Nat)) ((pickF a0 (1 : Int) (6 : Int)).get (0 : Int)) []) : (List Nat)) fun v12 => bnd (v1 : (List ((List Nat) × Int))) fun v15 => chk ((((subF a0 (5 : Int))).IsOk) ∧ (((nameF ((subF a0 (5 : Int)).get (0 : Int)))).IsOk) ∧ (((subF a0 (6 : Int))).IsOk) ∧ (((nameF ((subF a0 (6 : Int)).get (0 : Int)))).IsOk)) (bnd ((⟨"Fault", xFault v12 v15 ((nameF ((subF a0 (5 : Int)).get (0 : Int))).get []) ((nameF ((subF a0 (6 : Int)).get (0 : Int))).get [])⟩ : Exn) : Exn) fun v16 => chk ((v15.length < sizeLine)) (bnd (v15 ++ [(([97] : List Nat), (1 : Int))] : (List ((List Nat) × Int))) fun v21 => bnd ((⟨"Fault", xFault ([109, 105, 115, 115, 105, 110, 103] : List Nat) ([(([98] : List Nat), (2 : Int))] : List ((List Nat) × Int)) ([98] : List Nat) ([99] : List Nat)⟩ : Exn) : Exn) fun v23 => chk ((exf_trail v16.cls = true) ∧ ((v16.fs.lookup ("trail" : Str)).isSome = true) ∧ (plainT ((v16.fs.lookup ("trail" : Str)).getD .non) = true) ∧ ((!(isiD "list" ((v16.fs.lookup ("trail" : Str)).getD .non))) = false → (exf_trail v16.cls = true) ∧ ((v16.fs.lookup ("trail" : Str)).isSome = true) ∧ (eqk 8 ((v16.fs.lookup ("trail" : Str)).getD .non) = true) ∧ (eqk 8 (D.lst (List.map (fun z : ((List Nat) × Int) => (D.tup [(D.str z.1), (D.int z.2)])) v1)) = true) ∧ ((!(eqD ((v16.fs.lookup ("trail" : Str)).getD .non) (D.lst (List.map (fun z : ((List Nat) × Int) => (D.tup [(D.str z.1), (D.int z.2)])) v1)))) = false → (exf_trail v23.cls = true) ∧ ((v23.fs.lookup ("trail" : Str)).isSome = true) ∧ (eqk 8 ((v23.fs.lookup ("trail" : Str)).getD .non) = true) ∧ (eqk 8 (D.lst (List.map (fun z : ((List Nat) × Int) => (D.tup [(D.str z.1), (D.int z.2)])) ([(([98] : List Nat), (2 : Int))] : List ((List Nat) × Int)))) = true) ∧ ((!(eqD ((v23.fs.lookup ("trail" : Str)).getD .non) (D.lst (List.map (fun z : ((List Nat) × Int) => (D.tup [(D.str z.1), (D.int z.2)])) ([(([98] : List Nat), (2 : Int))] : List ((List Nat) × Int)))))) = false → (exf_whose v23.cls = true) ∧ ((v23.fs.lookup ("whose" : Str)).isSome = true) ∧ (isS ((v23.fs.lookup ("whose" : Str)).getD .non) = true))))) (if ((!(isiD "list" ((v16.fs.lookup ("trail" : Str)).getD .non))) || ((!(eqD ((v16.fs.lookup ("trail" : Str)).getD .non) (D.lst (List.map (fun z : ((List Nat) × Int) => (D.tup [(D.str z.1), (D.int z.2)])) v1)))) || ((!(eqD ((v23.fs.lookup ("trail" : Str)).getD .non) (D.lst (List.map (fun z : ((List Nat) × Int) => (D.tup [(D.str z.1), (D.int z.2)])) ([(([98] : List Nat), (2 : Int))] : List ((List Nat) × Int)))))) || (!(decide ((asS ((v23.fs.lookup ("whose" : Str)).getD .non)) = ([98] : List Nat))))))) = true then Co.up (.ret (.ok false)) else chk ((exf_word v16.cls = true) ∧ ((v16.fs.lookup ("word" : Str)).isSome = true) ∧ (isS ((v16.fs.lookup ("word" : Str)).getD .non) = true) ∧ ((!(decide ((asS ((v16.fs.lookup ("word" : Str)).getD .non)) = v12))) = false → (exf_whose v16.cls = true) ∧ ((v16.fs.lookup ("whose" : Str)).isSome = true) ∧ (isS ((v16.fs.lookup ("whose" : Str)).getD .non) = true) ∧ (((subF a0 (5 : Int))).IsOk) ∧ (((nameF ((subF a0 (5 : Int)).get (0 : Int)))).IsOk) ∧ ((!(decide ((asS ((v16.fs.lookup ("whose" : Str)).getD .non)) = ((nameF ((subF a0 (5 : Int)).get (0 : Int))).get [])))) = false → (exf_name v16.cls = true) ∧ ((v16.fs.lookup ("name" : Str)).isSome = true) ∧ (isS ((v16.fs.lookup ("name" : Str)).getD .non) = true) ∧ (((subF a0 (6 : Int))).IsOk) ∧ (((nameF ((subF a0 (6 : Int)).get (0 : Int)))).IsOk)))) (if ((!(decide ((asS ((v16.fs.lookup ("word" : Str)).getD .non)) = v12))) || ((!(decide ((asS ((v16.fs.lookup ("whose" : Str)).getD .non)) = ((nameF ((subF a0 (5 : Int)).get (0 : Int))).get [])))) || (!(decide ((asS ((v16.fs.lookup ("name" : Str)).getD .non)) = ((nameF ((subF a0 (6 : Int)).get (0 : Int))).get [])))))) = true then Co.up (.ret (.ok false)) else bndO ((flagsF v16) : Out (List Bool)) fun v63 => chk ((-(2 ^ 63) ≤ (12 : Int) ∧ (12 : Int) < 2 ^ 63) ∧ (([false] : List Bool).length * ((12 : Int)).toNat ≤ sizeLine) ∧ ((List.replicate ((12 : Int)).toNat ([false] : List Bool)).flatten.length + ([true] : List Bool).length ≤ sizeLine) ∧ ((decide (v63 = ((List.replicate ((12 : Int)).toNat ([false] : List Bool)).flatten ++ ([true] : List Bool)))) = true → ((isx_HouseError v16.cls).isSome = true) ∧ (((isx_HouseError v16.cls).getD false) = true → ((isx_ValueError v16.cls).isSome = true)))) (.ret (.ok ((decide (v63 = ((List.replicate ((12 : Int)).toNat ([false] : List Bool)).flatten ++ ([true] : List Bool)))) && (((isx_HouseError v16.cls).getD false) && ((isx_ValueError v16.cls).getD false)))))))))))
noncomputable def faultF (a0 : Int) : Out Bool := (c_fault a0).out .stk
theorem bd_fault (X : Cx) (E : XK) (hX : XOk 2 nm_law_fault (defScope s_law_fault) X) (hM : XCm X E) (m_ValueError : X.mg "ValueError" = none) (m_isinstance : X.mg "isinstance" = none) (m_list : X.mg "list" = none) (m_range : X.mg "range" = none) (kn_Fault_init : MkXX X "Fault" 1 (sp_Fault_init X.K)) (kn_flags : KnX X "_law_flags" 1 (sp_flags X.K)) (kn_name : KnX X "_law_name" 2 (sp_name X.K)) (kn_pick : KnX X "_law_pick" 1 (sp_pick X.K)) (kn_sub : KnX X "_law_sub" 1 (sp_sub X.K)) (xi_HouseError : ExIC X.K X.mg "HouseError" isx_HouseError) (xi_ValueError : ExI X.K (.type "ValueError") isx_ValueError) (xf_name : ExF X.K "name" exf_name) (xf_trail : ExF X.K "trail" exf_trail) (xf_whose : ExF X.K "whose" exf_whose) (xf_word : ExF X.K "word" exf_word) (a0 : Int) : BC X E ([.d (D.int a0), .un, .un, .un, .un, .un, .un, .un] : List B) (defBody s_law_fault) (fun s : Unit => List.replicate 8 B.un) (fun s : Empty => nomatch s) (fun z : Bool => Res.v (D.bl z)) (c_fault a0) := by
  unfold c_fault
  exact (c_chk (fun h79 => (have ⟨c2, c3, c10, c11⟩ := h79; (c_setLc 1 (fun z : (List ((List Nat) × Int)) => OO.lst (List.map (fun z : ((List Nat) × Int) => (D.tup [(D.str z.1), (D.int z.2)])) z)) hM hX rfl lk_law_fault_law_trail (sw_yes hX lk_law_fault_law_trail (by decide +kernel)) (lc_ok0 (Yt := Int) (τ := ((List Nat) × Int)) (encY := D.int) (enc := (fun z : ((List Nat) × Int) => (D.tup [(D.str z.1), (D.int z.2)]))) (g := (gName 7)) (js := [7]) (own := [("_law_k", 7)]) (rints 0 (((pickF a0 (9 : Int) (4 : Int)).get (0 : Int))).toNat) (fun y4 : Int => (((nameF ((subF a0 y4).get (0 : Int))).get []), ((pickF a0 ((2 : Int) + y4) (12 : Int)).get (0 : Int)))) (it_range1 (hX.gl lk_law_fault_range) m_range (ed_okS (z := D.int) (0 : Int) (fun E tk => (es_call (E := E) ((a0, (9 : Int), (4 : Int)) : Int × Int × Int) tk kn_pick (hM.room hX (by decide)) (hX.gl lk_law_fault_law_pick) (ea2_d (ed_var 0 (hX.nm rfl) (hX.vs (vis_c lk_law_fault_law_cell_here)) rfl) (ea2_d ed_int (ea2_d ed_int ea2_nil))) trivial)) (fun _ => rfl) c2) c3) (blk_ok hX (by decide +kernel)) (fun _ _ _ _ _ => (pg_name (i := 7) hX.nd (hX.nm rfl) (blk_lc hX (loc_l (by decide +kernel))) (.inr (blk_lk hX (by decide +kernel))))) (by decide) c11 (fun y4 : Int => ([.d (D.int a0), .un, .un, .un, .un, .un, .un, .d (D.int y4)] : List B)) (fun y4 _ => (show TgD X.K (gName 7) [7] (wipeB ([.d (D.int a0), .un, .un, .un, .un, .un, .un, .un] : List B) [7]) (D.int y4) ([.d (D.int a0), .un, .un, .un, .un, .un, .un, .d (D.int y4)] : List B) from (tg_name 7))) (fun y4 hy5 _ _ _ _ _ => (have ⟨c7, c8, c9⟩ := (c10 y4 hy5); (ed_tup (ea_cons (ed_okS (z := D.str) [] (fun E tk => (es_call (E := E) ((subF a0 y4).get (0 : Int)) tk kn_name (hM.room hX (by decide)) (blk_gl hX (by decide +kernel)) (ea2_d (ed_okS (z := D.int) (0 : Int) (fun E tk => (es_call (E := E) ((a0, y4) : Int × Int) tk kn_sub (hM.room hX (by decide)) (blk_gl hX (by decide +kernel)) (ea2_d (ed_var 0 (hX.nm rfl) (blk_vs hX (vis_c (by decide +kernel))) rfl) (ea2_d (ed_var 7 (hX.nm rfl) (blk_vs hX (vis_l (by decide +kernel))) rfl) ea2_nil)) trivial)) (fun _ => rfl) c7) ea2_nil) trivial)) (fun _ => rfl) c8) (ea_cons (ed_okS (z := D.int) (0 : Int) (fun E tk => (es_call (E := E) ((a0, ((2 : Int) + y4), (12 : Int)) : Int × Int × Int) tk kn_pick (hM.room hX (by decide)) (blk_gl hX (by decide +kernel)) (ea2_d (ed_var 0 (hX.nm rfl) (blk_vs hX (vis_c (by decide +kernel))) rfl) (ea2_d (ed_op (od_add _ _) ed_int (ed_var 7 (hX.nm rfl) (blk_vs hX (vis_l (by decide +kernel))) rfl)) (ea2_d ed_int ea2_nil))) trivial)) (fun _ => rfl) c9) ea_nil)) (by show 2 ≤ sizeLine; decide))))) (fun v1 hv1 => (show BC X E ([.d (D.int a0), .own (.lst (List.map (fun z : ((List Nat) × Int) => (D.tup [(D.str z.1), (D.int z.2)])) v1)), .un, .un, .un, .un, .un, .un] : List B) _ _ _ _ _ from (c_chk (fun h78 => (have ⟨c13, c14⟩ := h78; (c_set 2 D.str hX rfl (loc_l lk_law_fault_law_word) (ed_ixL (EvO.el (eo_lst (ea_cons (ed_str ([117, 110, 107, 110, 111, 119, 110] : List Nat) (by decide +kernel) (by decide)) (ea_cons (ed_str ([117, 110, 102, 105, 108, 108, 101, 100] : List Nat) (by decide +kernel) (by decide)) (ea_cons (ed_str ([109, 105, 115, 115, 105, 110, 103] : List Nat) (by decide +kernel) (by decide)) (ea_cons (ed_str ([110, 111, 112, 97, 114, 116] : List Nat) (by decide +kernel) (by decide)) (ea_cons (ed_str ([110, 111, 100, 101, 101, 100] : List Nat) (by decide +kernel) (by decide)) (ea_cons (ed_str ([110, 111, 110, 117, 109, 98, 101, 114] : List Nat) (by decide +kernel) (by decide)) ea_nil)))))) (by show 6 ≤ sizeLine; decide))) (ed_okS (z := D.int) (0 : Int) (fun E tk => (es_call (E := E) ((a0, (1 : Int), (6 : Int)) : Int × Int × Int) tk kn_pick (hM.room hX (by decide)) (hX.gl lk_law_fault_law_pick) (ea2_d (ed_var 0 (hX.nm rfl) (hX.vs (vis_c lk_law_fault_law_cell_here)) rfl) (ea2_d ed_int (ea2_d ed_int ea2_nil))) trivial)) (fun _ => rfl) c13) (atI_map (f := D.str) (xs := ([([117, 110, 107, 110, 111, 119, 110] : List Nat), ([117, 110, 102, 105, 108, 108, 101, 100] : List Nat), ([109, 105, 115, 115, 105, 110, 103] : List Nat), ([110, 111, 112, 97, 114, 116] : List Nat), ([110, 111, 100, 101, 101, 100] : List Nat), ([110, 111, 110, 117, 109, 98, 101, 114] : List Nat)] : List (List Nat))) (ix_ok (d := []) c14))) (fun v12 hv12 => (show BC X E ([.d (D.int a0), .own (.lst (List.map (fun z : ((List Nat) × Int) => (D.tup [(D.str z.1), (D.int z.2)])) v1)), .d (D.str v12), .un, .un, .un, .un, .un] : List B) _ _ _ _ _ from (c_setO 3 (fun z : (List ((List Nat) × Int)) => OO.lst (List.map (fun z : ((List Nat) × Int) => (D.tup [(D.str z.1), (D.int z.2)])) z)) hX rfl (loc_l lk_law_fault_law_handed) (eo_listL (hX.gl lk_law_fault_list) m_list (el_own 1 (hX.nm rfl) (hX.vs (vis_l lk_law_fault_law_trail)) rfl)) (fun v15 hv15 => (show BC X E ([.d (D.int a0), .own (.lst (List.map (fun z : ((List Nat) × Int) => (D.tup [(D.str z.1), (D.int z.2)])) v1)), .d (D.str v12), .own (.lst (List.map (fun z : ((List Nat) × Int) => (D.tup [(D.str z.1), (D.int z.2)])) v15)), .un, .un, .un, .un] : List B) _ _ _ _ _ from (c_chk (fun h77 => (have ⟨c17, c18, c19, c20⟩ := h77; (c_set 4 (fun z : Exn => (D.exv z.cls z.fs)) hX rfl (loc_l lk_law_fault_law_e) (ed_mkX (lv := 1) ((v12, v15, ((nameF ((subF a0 (5 : Int)).get (0 : Int))).get []), ((nameF ((subF a0 (6 : Int)).get (0 : Int))).get [])) : (List Nat) × (List ((List Nat) × Int)) × (List Nat) × (List Nat)) kn_Fault_init (hM.room hX (by decide)) (hX.gl lk_law_fault_Fault) (ea2_d (ed_var 2 (hX.nm rfl) (hX.vs (vis_l lk_law_fault_law_word)) rfl) (ea2_l (el_own 3 (hX.nm rfl) (hX.vs (vis_l lk_law_fault_law_handed)) rfl) (ea2_d (ed_okS (z := D.str) [] (fun E tk => (es_call (E := E) ((subF a0 (5 : Int)).get (0 : Int)) tk kn_name (hM.room hX (by decide)) (hX.gl lk_law_fault_law_name) (ea2_d (ed_okS (z := D.int) (0 : Int) (fun E tk => (es_call (E := E) ((a0, (5 : Int)) : Int × Int) tk kn_sub (hM.room hX (by decide)) (hX.gl lk_law_fault_law_sub) (ea2_d (ed_var 0 (hX.nm rfl) (hX.vs (vis_c lk_law_fault_law_cell_here)) rfl) (ea2_d ed_int ea2_nil)) trivial)) (fun _ => rfl) c17) ea2_nil) trivial)) (fun _ => rfl) c18) (ea2_d (ed_okS (z := D.str) [] (fun E tk => (es_call (E := E) ((subF a0 (6 : Int)).get (0 : Int)) tk kn_name (hM.room hX (by decide)) (hX.gl lk_law_fault_law_name) (ea2_d (ed_okS (z := D.int) (0 : Int) (fun E tk => (es_call (E := E) ((a0, (6 : Int)) : Int × Int) tk kn_sub (hM.room hX (by decide)) (hX.gl lk_law_fault_law_sub) (ea2_d (ed_var 0 (hX.nm rfl) (hX.vs (vis_c lk_law_fault_law_cell_here)) rfl) (ea2_d ed_int ea2_nil)) trivial)) (fun _ => rfl) c19) ea2_nil) trivial)) (fun _ => rfl) c20) ea2_nil)))) (by show 4 ≤ 900; decide) (by unfold xFault; simp)) (fun v16 hv16 => (show BC X E ([.d (D.int a0), .own (.lst (List.map (fun z : ((List Nat) × Int) => (D.tup [(D.str z.1), (D.int z.2)])) v1)), .d (D.str v12), .own (.lst (List.map (fun z : ((List Nat) × Int) => (D.tup [(D.str z.1), (D.int z.2)])) v15)), .d (D.exv v16.cls v16.fs), .un, .un, .un] : List B) _ _ _ _ _ from (c_chk (fun h76 => (have c22 := h76; (c_app 3 (fun z : ((List Nat) × Int) => (D.tup [(D.str z.1), (D.int z.2)])) hX rfl (vis_l lk_law_fault_law_handed) rfl (ed_tup (ea_cons (ed_str ([97] : List Nat) (by decide +kernel) (by decide)) (ea_cons ed_int ea_nil)) (by show 2 ≤ sizeLine; decide)) c22 (fun v21 hv21 => (show BC X E ([.d (D.int a0), .own (.lst (List.map (fun z : ((List Nat) × Int) => (D.tup [(D.str z.1), (D.int z.2)])) v1)), .d (D.str v12), .own (.lst (List.map (fun z : ((List Nat) × Int) => (D.tup [(D.str z.1), (D.int z.2)])) v21)), .d (D.exv v16.cls v16.fs), .un, .un, .un] : List B) _ _ _ _ _ from (c_set 5 (fun z : Exn => (D.exv z.cls z.fs)) hX rfl (loc_l lk_law_fault_law_other) (ed_mkX (lv := 1) ((([109, 105, 115, 115, 105, 110, 103] : List Nat), ([(([98] : List Nat), (2 : Int))] : List ((List Nat) × Int)), ([98] : List Nat), ([99] : List Nat)) : (List Nat) × (List ((List Nat) × Int)) × (List Nat) × (List Nat)) kn_Fault_init (hM.room hX (by decide)) (hX.gl lk_law_fault_Fault) (ea2_d (ed_str ([109, 105, 115, 115, 105, 110, 103] : List Nat) (by decide +kernel) (by decide)) (ea2_l (EvO.el (eo_lst (ea_cons (ed_tup (ea_cons (ed_str ([98] : List Nat) (by decide +kernel) (by decide)) (ea_cons ed_int ea_nil)) (by show 2 ≤ sizeLine; decide)) ea_nil) (by show 1 ≤ sizeLine; decide))) (ea2_d (ed_str ([98] : List Nat) (by decide +kernel) (by decide)) (ea2_d (ed_str ([99] : List Nat) (by decide +kernel) (by decide)) ea2_nil)))) (by show 4 ≤ 900; decide) (by unfold xFault; simp)) (fun v23 hv23 => (show BC X E ([.d (D.int a0), .own (.lst (List.map (fun z : ((List Nat) × Int) => (D.tup [(D.str z.1), (D.int z.2)])) v1)), .d (D.str v12), .own (.lst (List.map (fun z : ((List Nat) × Int) => (D.tup [(D.str z.1), (D.int z.2)])) v21)), .d (D.exv v16.cls v16.fs), .d (D.exv v23.cls v23.fs), .un, .un] : List B) _ _ _ _ _ from (c_chk (fun h75 => (have ⟨c24, c25, c26, c43⟩ := h75; (c_ifr (et_lendG 1 (lendOw rfl) (show ET X ([.d (D.int a0), .d (D.lst (List.map (fun z : ((List Nat) × Int) => (D.tup [(D.str z.1), (D.int z.2)])) v1)), .d (D.str v12), .own (.lst (List.map (fun z : ((List Nat) × Int) => (D.tup [(D.str z.1), (D.int z.2)])) v21)), .d (D.exv v16.cls v16.fs), .d (D.exv v23.cls v23.fs), .un, .un] : List B) _ _ from (et_w (ew_or (et_not (et_val (ed_isiD (hX.gl lk_law_fault_isinstance) m_isinstance (ed_fldV (ed_var 4 (hX.nm rfl) (hX.vs (vis_l lk_law_fault_law_e)) rfl) xf_trail c24 c25) (ed_ty (n := "list") (hX.gl lk_law_fault_list) m_list (by decide +kernel)) (isi_ok c26 (by decide))))) (fun h42 => (have ⟨c27, c28, c29, c30, c41⟩ := (c43 h42); (ew_or (et_cmp (od_neD 8 (room64 hX.room) c29 c30 (by decide)) (ed_fldV (ed_var 4 (hX.nm rfl) (hX.vs (vis_l lk_law_fault_law_e)) rfl) xf_trail c27 c28) (ed_var 1 (hX.nm rfl) (hX.vs (vis_l lk_law_fault_law_trail)) rfl)) (fun h40 => (have ⟨c31, c32, c33, c34, c39⟩ := (c41 h40); (ew_or (et_cmp (od_neD 8 (room64 hX.room) c33 c34 (by decide)) (ed_fldV (ed_var 5 (hX.nm rfl) (hX.vs (vis_l lk_law_fault_law_other)) rfl) xf_trail c31 c32) (EvO.frz (eo_lst (ea_cons (ed_tup (ea_cons (ed_str ([98] : List Nat) (by decide +kernel) (by decide)) (ea_cons ed_int ea_nil)) (by show 2 ≤ sizeLine; decide)) ea_nil) (by show 1 ≤ sizeLine; decide)))) (fun h38 => (have ⟨c35, c36, c37⟩ := (c39 h38); (ew_or1 (et_cmp (od_neS _ _) (ed_cast (asS_ok c37) (ed_fldV (ed_var 5 (hX.nm rfl) (hX.vs (vis_l lk_law_fault_law_other)) rfl) xf_whose c35 c36)) (ed_str ([98] : List Nat) (by decide +kernel) (by decide)))))))))))))))) (fun h44 => (c_ret ed_bl rfl)) (fun h44 => (c_chk (fun h74 => (have ⟨c45, c46, c47, c61⟩ := h74; (c_ifr (et_w (ew_or (et_cmp (od_neS _ _) (ed_cast (asS_ok c47) (ed_fldV (ed_var 4 (hX.nm rfl) (hX.vs (vis_l lk_law_fault_law_e)) rfl) xf_word c45 c46)) (ed_var 2 (hX.nm rfl) (hX.vs (vis_l lk_law_fault_law_word)) rfl)) (fun h60 => (have ⟨c48, c49, c50, c51, c52, c59⟩ := (c61 h60); (ew_or (et_cmp (od_neS _ _) (ed_cast (asS_ok c50) (ed_fldV (ed_var 4 (hX.nm rfl) (hX.vs (vis_l lk_law_fault_law_e)) rfl) xf_whose c48 c49)) (ed_okS (z := D.str) [] (fun E tk => (es_call (E := E) ((subF a0 (5 : Int)).get (0 : Int)) tk kn_name (hM.room hX (by decide)) (hX.gl lk_law_fault_law_name) (ea2_d (ed_okS (z := D.int) (0 : Int) (fun E tk => (es_call (E := E) ((a0, (5 : Int)) : Int × Int) tk kn_sub (hM.room hX (by decide)) (hX.gl lk_law_fault_law_sub) (ea2_d (ed_var 0 (hX.nm rfl) (hX.vs (vis_c lk_law_fault_law_cell_here)) rfl) (ea2_d ed_int ea2_nil)) trivial)) (fun _ => rfl) c51) ea2_nil) trivial)) (fun _ => rfl) c52)) (fun h58 => (have ⟨c53, c54, c55, c56, c57⟩ := (c59 h58); (ew_or1 (et_cmp (od_neS _ _) (ed_cast (asS_ok c55) (ed_fldV (ed_var 4 (hX.nm rfl) (hX.vs (vis_l lk_law_fault_law_e)) rfl) xf_name c53 c54)) (ed_okS (z := D.str) [] (fun E tk => (es_call (E := E) ((subF a0 (6 : Int)).get (0 : Int)) tk kn_name (hM.room hX (by decide)) (hX.gl lk_law_fault_law_name) (ea2_d (ed_okS (z := D.int) (0 : Int) (fun E tk => (es_call (E := E) ((a0, (6 : Int)) : Int × Int) tk kn_sub (hM.room hX (by decide)) (hX.gl lk_law_fault_law_sub) (ea2_d (ed_var 0 (hX.nm rfl) (hX.vs (vis_c lk_law_fault_law_cell_here)) rfl) (ea2_d ed_int ea2_nil)) trivial)) (fun _ => rfl) c56) ea2_nil) trivial)) (fun _ => rfl) c57)))))))))) (fun h62 => (c_ret ed_bl rfl)) (fun h62 => (c_setRO 6 (fun z : (List Bool) => OO.lst (List.map D.bl z)) hX rfl (loc_l lk_law_fault_law_flags_here) (es_call (E := (fun _ => E)) v16 hM.pass kn_flags (hM.room hX (by decide)) (hX.gl lk_law_fault_law_flags) (ea2_d (ed_var 4 (hX.nm rfl) (hX.vs (vis_l lk_law_fault_law_e)) rfl) ea2_nil) trivial) (fun v63 => (show BC X E ([.d (D.int a0), .own (.lst (List.map (fun z : ((List Nat) × Int) => (D.tup [(D.str z.1), (D.int z.2)])) v1)), .d (D.str v12), .own (.lst (List.map (fun z : ((List Nat) × Int) => (D.tup [(D.str z.1), (D.int z.2)])) v21)), .d (D.exv v16.cls v16.fs), .d (D.exv v23.cls v23.fs), .own (.lst (List.map D.bl v63)), .un] : List B) _ _ _ _ _ from (c_chk (fun h73 => (have ⟨c64, c65, c66, c72⟩ := h73; (c_ret (ed_lendG 6 (lendOw rfl) rfl (show ED X ([.d (D.int a0), .own (.lst (List.map (fun z : ((List Nat) × Int) => (D.tup [(D.str z.1), (D.int z.2)])) v1)), .d (D.str v12), .own (.lst (List.map (fun z : ((List Nat) × Int) => (D.tup [(D.str z.1), (D.int z.2)])) v21)), .d (D.exv v16.cls v16.fs), .d (D.exv v23.cls v23.fs), .d (D.lst (List.map D.bl v63)), .un] : List B) _ _ from (ed_and (ed_cmp (od_eqT (eqT_lst (eqT_bl 7)) (room64 hX.room) v63 ((List.replicate ((12 : Int)).toNat ([false] : List Bool)).flatten ++ ([true] : List Bool))) (ed_var 6 (hX.nm rfl) (hX.vs (vis_l lk_law_fault_law_flags_here)) rfl) (EvO.frz (eo_catM (EvO.el (eo_repM (EvO.el (eo_lst (ea_cons ed_bl ea_nil) (by show 1 ≤ sizeLine; decide))) ed_int c64 c65)) (EvO.el (eo_lst (ea_cons ed_bl ea_nil) (by show 1 ≤ sizeLine; decide))) c66))) (fun h71 => (have ⟨c67, c70⟩ := (c72 h71); (ed_and (ed_isV (hX.gl lk_law_fault_isinstance) m_isinstance (ed_var 4 (hX.nm rfl) (hX.vs (vis_l lk_law_fault_law_e)) rfl) (hX.gl lk_law_fault_HouseError) xi_HouseError c67) (fun h69 => (have c68 := (c70 h69); (ed_one (ed_isVB (hX.gl lk_law_fault_isinstance) m_isinstance (ed_var 4 (hX.nm rfl) (hX.vs (vis_l lk_law_fault_law_e)) rfl) (ed_ty (n := "ValueError") (hX.gl lk_law_fault_ValueError) m_ValueError (by decide +kernel)) xi_ValueError c68)))))))))) rfl)))))))))))))))))))))))))))))))))))))))))))))))
abbrev sp_fault (K : PySem.W.Frag) : Sp := spG K (A := Int) (fun a => [.d (D.int a)]) (fun _ => True) (fun a => rsOf (fun z : Bool => Res.v (D.bl z)) (faultF a))
theorem ok_fault {P : Program} {w : World} {K : PySem.W.Frag} {mg : Str → Option Value} {base : Heap} {f : Addr} {fd : FuncData} (F : Fun K "_law_fault" "_law_fault" s_law_fault f fd) (m_ValueError : mg "ValueError" = none) (m_isinstance : mg "isinstance" = none) (m_list : mg "list" = none) (m_range : mg "range" = none) (kn_Fault_init : MkrX P w K mg base "Fault" 1 (sp_Fault_init K)) (kn_flags : Kn P w K mg base "_law_flags" 1 (sp_flags K)) (kn_name : Kn P w K mg base "_law_name" 2 (sp_name K)) (kn_pick : Kn P w K mg base "_law_pick" 1 (sp_pick K)) (kn_sub : Kn P w K mg base "_law_sub" 1 (sp_sub K)) (xi_HouseError : ExIC K mg "HouseError" isx_HouseError) (xi_ValueError : ExI K (.type "ValueError") isx_ValueError) (xf_name : ExF K "name" exf_name) (xf_trail : ExF K "trail" exf_trail) (xf_whose : ExF K "whose" exf_whose) (xf_word : ExF K "word" exf_word) : FnOk P w K mg base (L2.CX P w) 3 f fd ["_law_cell_here"] (sp_fault K) :=
  def_okC (A := Int) F sc_law_fault .stk (.inl rfl) (fun _ => rfl) (fun a => c_fault a) (fun a X E e1 e2 e3 e4 e5 hX hM => by
    subst e1 e2 e3 e4 e5
    exact bd_fault X E hX hM m_ValueError m_isinstance m_list m_range kn_Fault_init kn_flags kn_name kn_pick kn_sub xi_HouseError xi_ValueError xf_name xf_trail xf_whose xf_word a)
abbrev s_law : Stmt := top 26
abbrev nm_law : List Str := ["_law_script", "_law_k", "_law_cell_here", "_law_way", "_law_at", "_law_word", "_law_e", "_law_other", "_law_due"]
theorem sc_law : FnScope nm_law ["_law_script"] (defScope s_law) := ⟨rfl, rfl, rfl, by decide +kernel, rfl, by decide +kernel, by decide +kernel⟩
theorem lk_law_HouseError : (defScope s_law).names.lookup ("HouseError" : Str) = some .globalImplicit := by decide +kernel
theorem lk_law_ValueError : (defScope s_law).names.lookup ("ValueError" : Str) = some .globalImplicit := by decide +kernel
theorem lk_law_isinstance : (defScope s_law).names.lookup ("isinstance" : Str) = some .globalImplicit := by decide +kernel
theorem lk_law_law_at : (defScope s_law).names.lookup ("_law_at" : Str) = some .local := by decide +kernel
theorem lk_law_law_cell : (defScope s_law).names.lookup ("_law_cell" : Str) = some .globalImplicit := by decide +kernel
theorem lk_law_law_cell_here : (defScope s_law).names.lookup ("_law_cell_here" : Str) = some .local := by decide +kernel
theorem lk_law_law_due : (defScope s_law).names.lookup ("_law_due" : Str) = some .local := by decide +kernel
theorem lk_law_law_e : (defScope s_law).names.lookup ("_law_e" : Str) = some .local := by decide +kernel
theorem lk_law_law_fault : (defScope s_law).names.lookup ("_law_fault" : Str) = some .globalImplicit := by decide +kernel
theorem lk_law_law_flags : (defScope s_law).names.lookup ("_law_flags" : Str) = some .globalImplicit := by decide +kernel
theorem lk_law_law_k : (defScope s_law).names.lookup ("_law_k" : Str) = some .local := by decide +kernel
theorem lk_law_law_keeps : (defScope s_law).names.lookup ("_law_keeps" : Str) = some .globalImplicit := by decide +kernel
theorem lk_law_law_name : (defScope s_law).names.lookup ("_law_name" : Str) = some .globalImplicit := by decide +kernel
theorem lk_law_law_number : (defScope s_law).names.lookup ("_law_number" : Str) = some .globalImplicit := by decide +kernel
theorem lk_law_law_other : (defScope s_law).names.lookup ("_law_other" : Str) = some .local := by decide +kernel
theorem lk_law_law_pick : (defScope s_law).names.lookup ("_law_pick" : Str) = some .globalImplicit := by decide +kernel
theorem lk_law_law_placed : (defScope s_law).names.lookup ("_law_placed" : Str) = some .globalImplicit := by decide +kernel
theorem lk_law_law_script : (defScope s_law).names.lookup ("_law_script" : Str) = some .local := by decide +kernel
theorem lk_law_law_sub : (defScope s_law).names.lookup ("_law_sub" : Str) = some .globalImplicit := by decide +kernel
theorem lk_law_law_way : (defScope s_law).names.lookup ("_law_way" : Str) = some .cell := by decide +kernel
theorem lk_law_law_word : (defScope s_law).names.lookup ("_law_word" : Str) = some .local := by decide +kernel
theorem lk_law_law_worded : (defScope s_law).names.lookup ("_law_worded" : Str) = some .globalImplicit := by decide +kernel
theorem lk_law_len : (defScope s_law).names.lookup ("len" : Str) = some .globalImplicit := by decide +kernel
theorem lk_law_max : (defScope s_law).names.lookup ("max" : Str) = some .globalImplicit := by decide +kernel
theorem lk_law_min : (defScope s_law).names.lookup ("min" : Str) = some .globalImplicit := by decide +kernel
theorem lk_law_range : (defScope s_law).names.lookup ("range" : Str) = some .globalImplicit := by decide +kernel
noncomputable def c_law (a0 : (List Int)) : Co Unit Empty Bool := chk ((-(2 ^ 62) ≤ (if (if (30 : Int) < (a0.length : Int) then (30 : Int) else (a0.length : Int)) > (1 : Int) then (if (30 : Int) < (a0.length : Int) then (30 : Int) else (a0.length : Int)) else (1 : Int)) ∧ (if (if (30 : Int) < (a0.length : Int) then (30 : Int) else (a0.length : Int)) > (1 : Int) then (if (30 : Int) < (a0.length : Int) then (30 : Int) else (a0.length : Int)) else (1 : Int)) < 2 ^ 62)) (Co.bind (S := Unit) (coLoop (Y := Int) (fun (s2 : Unit) (y3 : Int) => (bndO ((cellF a0 y3) : Out Int) fun v4 => bndO ((pickF v4 (0 : Int) (13 : Int)) : Out Int) fun v5 => chk ((((pickF v4 (2 : Int) (2 : Int))).IsOk) ∧ (((pickF v4 (1 : Int) (13 : Int))).IsOk) ∧ (((numberF v4 ((10 : Int) ^ ((30 : Int)).toNat))).IsOk) ∧ (-((([((pickF v4 (1 : Int) (13 : Int)).get (0 : Int)), ((numberF v4 ((10 : Int) ^ ((30 : Int)).toNat)).get (0 : Int))] : List Int)).length : Int) ≤ ((pickF v4 (2 : Int) (2 : Int)).get (0 : Int)) ∧ ((pickF v4 (2 : Int) (2 : Int)).get (0 : Int)) < ((([((pickF v4 (1 : Int) (13 : Int)).get (0 : Int)), ((numberF v4 ((10 : Int) ^ ((30 : Int)).toNat)).get (0 : Int))] : List Int)).length : Int))) (bnd ((ix ([((pickF v4 (1 : Int) (13 : Int)).get (0 : Int)), ((numberF v4 ((10 : Int) ^ ((30 : Int)).toNat)).get (0 : Int))] : List Int) ((pickF v4 (2 : Int) (2 : Int)).get (0 : Int)) (0 : Int)) : Int) fun v6 => chk ((((nameF v4)).IsOk)) (bnd ((cutL ((nameF v4).get []) none (some (7 : Int))) : (List Nat)) fun v11 => Co.bind (S := Exn × Exn) (if (decide (v5 < (7 : Int))) = true then bndO ((placedF v5 v6) : Out Exn) fun v14 => bndO ((placedF v5 (v6 + (1 : Int))) : Out Exn) fun v15 => .go (v14, v15) else bndO ((wordedF v5 v11) : Out Exn) fun v16 => chk ((v11.length + ([97] : List Nat).length ≤ LMax)) (bndO ((wordedF v5 (v11 ++ ([97] : List Nat))) : Out Exn) fun v17 => .go (v16, v17))) fun s20 => chk (((rints 0 ((13 : Int)).toNat).length < sizeLine)) (bnd ((List.map (fun y22 : Int => (decide (y22 = v5))) (rints 0 ((13 : Int)).toNat)) : (List Bool)) fun v21 => Co.bind (S := (List Bool)) (if (decide (v5 = (12 : Int))) = true then chk ((-(2 ^ 63) ≤ (13 : Int) ∧ (13 : Int) < 2 ^ 63) ∧ (([false] : List Bool).length * ((13 : Int)).toNat ≤ sizeLine)) (bnd ((List.replicate ((13 : Int)).toNat ([false] : List Bool)).flatten : (List Bool)) fun v27 => .go v27) else .go v21) fun s31 => chk ((((flagsF s20.1)).IsOk) ∧ ((!(decide (((flagsF s20.1).get []) = s31))) = false → ((isx_HouseError s20.1.cls).isSome = true) ∧ ((!((isx_HouseError s20.1.cls).getD false)) = false → ((isx_ValueError s20.1.cls).isSome = true)))) (if ((!(decide (((flagsF s20.1).get []) = s31))) || ((!((isx_HouseError s20.1.cls).getD false)) || (!((isx_ValueError s20.1.cls).getD false)))) = true then Co.up (.ret (.ok false)) else chk ((((keepsF s20.1 v5 v6 v11)).IsOk) ∧ ((!((keepsF s20.1 v5 v6 v11).get false)) = false → (v11.length + ([97] : List Nat).length ≤ LMax) ∧ (((keepsF s20.2 v5 (v6 + (1 : Int)) (v11 ++ ([97] : List Nat)))).IsOk))) (if ((!((keepsF s20.1 v5 v6 v11).get false)) || (!((keepsF s20.2 v5 (v6 + (1 : Int)) (v11 ++ ([97] : List Nat))).get false))) = true then Co.up (.ret (.ok false)) else chk ((((subF v4 (7 : Int))).IsOk) ∧ (((faultF ((subF v4 (7 : Int)).get (0 : Int)))).IsOk)) (if (!((faultF ((subF v4 (7 : Int)).get (0 : Int))).get false)) = true then Co.up (.ret (.ok false)) else .go ())))))) : Co (Unit) (Unit) Bool)) () (rints 0 ((if (if (30 : Int) < (a0.length : Int) then (30 : Int) else (a0.length : Int)) > (1 : Int) then (if (30 : Int) < (a0.length : Int) then (30 : Int) else (a0.length : Int)) else (1 : Int))).toNat)) fun s55 => .ret (.ok true))
noncomputable def lawF (a0 : (List Int)) : Out Bool := (c_law a0).out .stk
theorem bd_law (X : Cx) (E : XK) (hX : XOk 3 nm_law (defScope s_law) X) (hM : XCm X E) (m_ValueError : X.mg "ValueError" = none) (m_isinstance : X.mg "isinstance" = none) (m_len : X.mg "len" = none) (m_max : X.mg "max" = none) (m_min : X.mg "min" = none) (m_range : X.mg "range" = none) (kn_cell : KnX X "_law_cell" 1 (sp_cell X.K)) (kn_fault : KnX X "_law_fault" 3 (sp_fault X.K)) (kn_flags : KnX X "_law_flags" 1 (sp_flags X.K)) (kn_keeps : KnX X "_law_keeps" 1 (sp_keeps X.K)) (kn_name : KnX X "_law_name" 2 (sp_name X.K)) (kn_number : KnX X "_law_number" 1 (sp_number X.K)) (kn_pick : KnX X "_law_pick" 1 (sp_pick X.K)) (kn_placed : KnX X "_law_placed" 3 (sp_placed X.K)) (kn_sub : KnX X "_law_sub" 1 (sp_sub X.K)) (kn_worded : KnX X "_law_worded" 3 (sp_worded X.K)) (xi_HouseError : ExIC X.K X.mg "HouseError" isx_HouseError) (xi_ValueError : ExI X.K (.type "ValueError") isx_ValueError) (a0 : (List Int)) : BC X E ([.d (D.scr a0), .un, .un, .un, .un, .un, .un, .un, .un] : List B) (defBody s_law) (fun s : Unit => List.replicate 9 B.un) (fun s : Empty => nomatch s) (fun z : Bool => Res.v (D.bl z)) (c_law a0) := by
  unfold c_law
  exact (c_chk (fun h56 => (have c1 := h56; (c_for (Γl := (fun s2 : Unit => ([.d (D.scr a0), .un, .un, .un, .un, .un, .un, .un, .un] : List B))) (g := (gName 1)) (js := [1]) D.int (fun (s2 : Unit) (y3 : Int) => (bndO ((cellF a0 y3) : Out Int) fun v4 => bndO ((pickF v4 (0 : Int) (13 : Int)) : Out Int) fun v5 => chk ((((pickF v4 (2 : Int) (2 : Int))).IsOk) ∧ (((pickF v4 (1 : Int) (13 : Int))).IsOk) ∧ (((numberF v4 ((10 : Int) ^ ((30 : Int)).toNat))).IsOk) ∧ (-((([((pickF v4 (1 : Int) (13 : Int)).get (0 : Int)), ((numberF v4 ((10 : Int) ^ ((30 : Int)).toNat)).get (0 : Int))] : List Int)).length : Int) ≤ ((pickF v4 (2 : Int) (2 : Int)).get (0 : Int)) ∧ ((pickF v4 (2 : Int) (2 : Int)).get (0 : Int)) < ((([((pickF v4 (1 : Int) (13 : Int)).get (0 : Int)), ((numberF v4 ((10 : Int) ^ ((30 : Int)).toNat)).get (0 : Int))] : List Int)).length : Int))) (bnd ((ix ([((pickF v4 (1 : Int) (13 : Int)).get (0 : Int)), ((numberF v4 ((10 : Int) ^ ((30 : Int)).toNat)).get (0 : Int))] : List Int) ((pickF v4 (2 : Int) (2 : Int)).get (0 : Int)) (0 : Int)) : Int) fun v6 => chk ((((nameF v4)).IsOk)) (bnd ((cutL ((nameF v4).get []) none (some (7 : Int))) : (List Nat)) fun v11 => Co.bind (S := Exn × Exn) (if (decide (v5 < (7 : Int))) = true then bndO ((placedF v5 v6) : Out Exn) fun v14 => bndO ((placedF v5 (v6 + (1 : Int))) : Out Exn) fun v15 => .go (v14, v15) else bndO ((wordedF v5 v11) : Out Exn) fun v16 => chk ((v11.length + ([97] : List Nat).length ≤ LMax)) (bndO ((wordedF v5 (v11 ++ ([97] : List Nat))) : Out Exn) fun v17 => .go (v16, v17))) fun s20 => chk (((rints 0 ((13 : Int)).toNat).length < sizeLine)) (bnd ((List.map (fun y22 : Int => (decide (y22 = v5))) (rints 0 ((13 : Int)).toNat)) : (List Bool)) fun v21 => Co.bind (S := (List Bool)) (if (decide (v5 = (12 : Int))) = true then chk ((-(2 ^ 63) ≤ (13 : Int) ∧ (13 : Int) < 2 ^ 63) ∧ (([false] : List Bool).length * ((13 : Int)).toNat ≤ sizeLine)) (bnd ((List.replicate ((13 : Int)).toNat ([false] : List Bool)).flatten : (List Bool)) fun v27 => .go v27) else .go v21) fun s31 => chk ((((flagsF s20.1)).IsOk) ∧ ((!(decide (((flagsF s20.1).get []) = s31))) = false → ((isx_HouseError s20.1.cls).isSome = true) ∧ ((!((isx_HouseError s20.1.cls).getD false)) = false → ((isx_ValueError s20.1.cls).isSome = true)))) (if ((!(decide (((flagsF s20.1).get []) = s31))) || ((!((isx_HouseError s20.1.cls).getD false)) || (!((isx_ValueError s20.1.cls).getD false)))) = true then Co.up (.ret (.ok false)) else chk ((((keepsF s20.1 v5 v6 v11)).IsOk) ∧ ((!((keepsF s20.1 v5 v6 v11).get false)) = false → (v11.length + ([97] : List Nat).length ≤ LMax) ∧ (((keepsF s20.2 v5 (v6 + (1 : Int)) (v11 ++ ([97] : List Nat)))).IsOk))) (if ((!((keepsF s20.1 v5 v6 v11).get false)) || (!((keepsF s20.2 v5 (v6 + (1 : Int)) (v11 ++ ([97] : List Nat))).get false))) = true then Co.up (.ret (.ok false)) else chk ((((subF v4 (7 : Int))).IsOk) ∧ (((faultF ((subF v4 (7 : Int)).get (0 : Int)))).IsOk)) (if (!((faultF ((subF v4 (7 : Int)).get (0 : Int))).get false)) = true then Co.up (.ret (.ok false)) else .go ())))))) : Co (Unit) (Unit) Bool)) () (rints 0 ((if (if (30 : Int) < (a0.length : Int) then (30 : Int) else (a0.length : Int)) > (1 : Int) then (if (30 : Int) < (a0.length : Int) then (30 : Int) else (a0.length : Int)) else (1 : Int))).toNat) (fun (s2 : Unit) (y3 : Int) => ([.d (D.scr a0), .d (D.int y3), .un, .un, .un, .un, .un, .un, .un] : List B)) hM hX (.keep (.keep (.keep (.keep (.keep (.keep (.keep (.keep (.keep .nil))))))))) (it_range1 (hX.gl lk_law_range) m_range (ed_max2 hM.calm (hX.gl lk_law_max) m_max ed_int (ed_min2 hM.calm (hX.gl lk_law_min) m_min (ed_lenScr (hX.gl lk_law_len) m_len (ed_var 0 (hX.nm rfl) (hX.vs (vis_l lk_law_law_script)) rfl)) ed_int)) c1) (pg_name (i := 1) hX.nd (hX.nm rfl) (hX.lc (loc_l lk_law_law_k)) (.inl (hX.fn _))) (fun s2 y3 => (tg_name 1)) (fun s2 y3 => (c_setR 2 D.int hX rfl (loc_l lk_law_law_cell_here) (es_call (E := (fun _ => E)) ((a0, y3) : (List Int) × Int) hM.pass kn_cell (hM.room hX (by decide)) (hX.gl lk_law_law_cell) (ea2_d (ed_var 0 (hX.nm rfl) (hX.vs (vis_l lk_law_law_script)) rfl) (ea2_d (ed_var 1 (hX.nm rfl) (hX.vs (vis_l lk_law_law_k)) rfl) ea2_nil)) trivial) (fun v4 => (show BC X E ([.d (D.scr a0), .d (D.int y3), .d (D.int v4), .un, .un, .un, .un, .un, .un] : List B) _ _ _ _ _ from (c_setR 3 D.int hX rfl (loc_c lk_law_law_way) (es_call (E := (fun _ => E)) ((v4, (0 : Int), (13 : Int)) : Int × Int × Int) hM.pass kn_pick (hM.room hX (by decide)) (hX.gl lk_law_law_pick) (ea2_d (ed_var 2 (hX.nm rfl) (hX.vs (vis_l lk_law_law_cell_here)) rfl) (ea2_d ed_int (ea2_d ed_int ea2_nil))) trivial) (fun v5 => (show BC X E ([.d (D.scr a0), .d (D.int y3), .d (D.int v4), .d (D.int v5), .un, .un, .un, .un, .un] : List B) _ _ _ _ _ from (c_chk (fun h54 => (have ⟨c7, c8, c9, c10⟩ := h54; (c_set 4 D.int hX rfl (loc_l lk_law_law_at) (ed_ixL (EvO.el (eo_lst (ea_cons (ed_okS (z := D.int) (0 : Int) (fun E tk => (es_call (E := E) ((v4, (1 : Int), (13 : Int)) : Int × Int × Int) tk kn_pick (hM.room hX (by decide)) (hX.gl lk_law_law_pick) (ea2_d (ed_var 2 (hX.nm rfl) (hX.vs (vis_l lk_law_law_cell_here)) rfl) (ea2_d ed_int (ea2_d ed_int ea2_nil))) trivial)) (fun _ => rfl) c8) (ea_cons (ed_okS (z := D.int) (0 : Int) (fun E tk => (es_call (E := E) ((v4, ((10 : Int) ^ ((30 : Int)).toNat)) : Int × Int) tk kn_number (hM.room hX (by decide)) (hX.gl lk_law_law_number) (ea2_d (ed_var 2 (hX.nm rfl) (hX.vs (vis_l lk_law_law_cell_here)) rfl) (ea2_d (ed_op (od_pow _ _ (show CPow _ _ from ⟨by decide, by decide, by decide⟩)) ed_int ed_int) ea2_nil)) trivial)) (fun _ => rfl) c9) ea_nil)) (by show 2 ≤ sizeLine; decide))) (ed_okS (z := D.int) (0 : Int) (fun E tk => (es_call (E := E) ((v4, (2 : Int), (2 : Int)) : Int × Int × Int) tk kn_pick (hM.room hX (by decide)) (hX.gl lk_law_law_pick) (ea2_d (ed_var 2 (hX.nm rfl) (hX.vs (vis_l lk_law_law_cell_here)) rfl) (ea2_d ed_int (ea2_d ed_int ea2_nil))) trivial)) (fun _ => rfl) c7) (atI_map (f := D.int) (xs := ([((pickF v4 (1 : Int) (13 : Int)).get (0 : Int)), ((numberF v4 ((10 : Int) ^ ((30 : Int)).toNat)).get (0 : Int))] : List Int)) (ix_ok (d := (0 : Int)) c10))) (fun v6 hv6 => (show BC X E ([.d (D.scr a0), .d (D.int y3), .d (D.int v4), .d (D.int v5), .d (D.int v6), .un, .un, .un, .un] : List B) _ _ _ _ _ from (c_chk (fun h53 => (have c12 := h53; (c_set 5 D.str hX rfl (loc_l lk_law_law_word) (ed_slS (ed_okS (z := D.str) [] (fun E tk => (es_call (E := E) v4 tk kn_name (hM.room hX (by decide)) (hX.gl lk_law_law_name) (ea2_d (ed_var 2 (hX.nm rfl) (hX.vs (vis_l lk_law_law_cell_here)) rfl) ea2_nil) trivial)) (fun _ => rfl) c12) ep_none (ep_some ed_int)) (fun v11 hv11 => (show BC X E ([.d (D.scr a0), .d (D.int y3), .d (D.int v4), .d (D.int v5), .d (D.int v6), .d (D.str v11), .un, .un, .un] : List B) _ _ _ _ _ from (c_ifj (Γj := (fun s20 : Exn × Exn => ([.d (D.scr a0), .d (D.int y3), .d (D.int v4), .d (D.int v5), .d (D.int v6), .d (D.str v11), .d (D.exv s20.1.cls s20.1.fs), .d (D.exv s20.2.cls s20.2.fs), .un] : List B))) (et_cmp (od_lt _ _) (ed_var 3 (hX.nm rfl) (hX.vs (vis_c lk_law_law_way)) rfl) ed_int) (fun h13 => (c_setR 6 (fun z : Exn => (D.exv z.cls z.fs)) hX rfl (loc_l lk_law_law_e) (es_call (E := (fun _ => E)) ((v5, v6) : Int × Int) hM.pass kn_placed (hM.room hX (by decide)) (hX.gl lk_law_law_placed) (ea2_d (ed_var 3 (hX.nm rfl) (hX.vs (vis_c lk_law_law_way)) rfl) (ea2_d (ed_var 4 (hX.nm rfl) (hX.vs (vis_l lk_law_law_at)) rfl) ea2_nil)) trivial) (fun v14 => (show BC X E ([.d (D.scr a0), .d (D.int y3), .d (D.int v4), .d (D.int v5), .d (D.int v6), .d (D.str v11), .d (D.exv v14.cls v14.fs), .un, .un] : List B) _ _ _ _ _ from (c_setR 7 (fun z : Exn => (D.exv z.cls z.fs)) hX rfl (loc_l lk_law_law_other) (es_call (E := (fun _ => E)) ((v5, (v6 + (1 : Int))) : Int × Int) hM.pass kn_placed (hM.room hX (by decide)) (hX.gl lk_law_law_placed) (ea2_d (ed_var 3 (hX.nm rfl) (hX.vs (vis_c lk_law_law_way)) rfl) (ea2_d (ed_op (od_add _ _) (ed_var 4 (hX.nm rfl) (hX.vs (vis_l lk_law_law_at)) rfl) ed_int) ea2_nil)) trivial) (fun v15 => (show BC X E ([.d (D.scr a0), .d (D.int y3), .d (D.int v4), .d (D.int v5), .d (D.int v6), .d (D.str v11), .d (D.exv v14.cls v14.fs), .d (D.exv v15.cls v15.fs), .un] : List B) _ _ _ _ _ from (c_nil (.keep (.keep (.keep (.keep (.keep (.keep (.keep (.keep (.keep .nil))))))))))))))))) (fun h13 => (c_setR 6 (fun z : Exn => (D.exv z.cls z.fs)) hX rfl (loc_l lk_law_law_e) (es_call (E := (fun _ => E)) ((v5, v11) : Int × (List Nat)) hM.pass kn_worded (hM.room hX (by decide)) (hX.gl lk_law_law_worded) (ea2_d (ed_var 3 (hX.nm rfl) (hX.vs (vis_c lk_law_law_way)) rfl) (ea2_d (ed_var 5 (hX.nm rfl) (hX.vs (vis_l lk_law_law_word)) rfl) ea2_nil)) trivial) (fun v16 => (show BC X E ([.d (D.scr a0), .d (D.int y3), .d (D.int v4), .d (D.int v5), .d (D.int v6), .d (D.str v11), .d (D.exv v16.cls v16.fs), .un, .un] : List B) _ _ _ _ _ from (c_chk (fun h19 => (have c18 := h19; (c_setR 7 (fun z : Exn => (D.exv z.cls z.fs)) hX rfl (loc_l lk_law_law_other) (es_call (E := (fun _ => E)) ((v5, (v11 ++ ([97] : List Nat))) : Int × (List Nat)) hM.pass kn_worded (hM.room hX (by decide)) (hX.gl lk_law_law_worded) (ea2_d (ed_var 3 (hX.nm rfl) (hX.vs (vis_c lk_law_law_way)) rfl) (ea2_d (ed_op (od_addS _ _ c18) (ed_var 5 (hX.nm rfl) (hX.vs (vis_l lk_law_law_word)) rfl) (ed_str ([97] : List Nat) (by decide +kernel) (by decide))) ea2_nil)) trivial) (fun v17 => (show BC X E ([.d (D.scr a0), .d (D.int y3), .d (D.int v4), .d (D.int v5), .d (D.int v6), .d (D.str v11), .d (D.exv v16.cls v16.fs), .d (D.exv v17.cls v17.fs), .un] : List B) _ _ _ _ _ from (c_nil (.keep (.keep (.keep (.keep (.keep (.keep (.keep (.keep (.keep .nil)))))))))))))))))))) (fun s20 => (c_chk (fun h52 => (have c25 := h52; (c_setLc 8 (fun z : (List Bool) => OO.lst (List.map D.bl z)) hM hX rfl lk_law_law_due (sw_yes hX lk_law_law_due (by decide +kernel)) (lc_ok0 (Yt := Int) (τ := Bool) (encY := D.int) (enc := D.bl) (g := (gName 1)) (js := [1]) (own := [("_law_k", 1)]) (rints 0 ((13 : Int)).toNat) (fun y22 : Int => (decide (y22 = v5))) (it_range1 (hX.gl lk_law_range) m_range ed_int (by decide)) (blk_ok hX (by decide +kernel)) (fun _ _ _ _ _ => (pg_name (i := 1) hX.nd (hX.nm rfl) (blk_lc hX (loc_l (by decide +kernel))) (.inr (blk_lk hX (by decide +kernel))))) (by decide) c25 (fun y22 : Int => ([.d (D.scr a0), .d (D.int y22), .d (D.int v4), .d (D.int v5), .d (D.int v6), .d (D.str v11), .d (D.exv s20.1.cls s20.1.fs), .d (D.exv s20.2.cls s20.2.fs), .un] : List B)) (fun y22 _ => (show TgD X.K (gName 1) [1] (wipeB ([.d (D.scr a0), .d (D.int y3), .d (D.int v4), .d (D.int v5), .d (D.int v6), .d (D.str v11), .d (D.exv s20.1.cls s20.1.fs), .d (D.exv s20.2.cls s20.2.fs), .un] : List B) [1]) (D.int y22) ([.d (D.scr a0), .d (D.int y22), .d (D.int v4), .d (D.int v5), .d (D.int v6), .d (D.str v11), .d (D.exv s20.1.cls s20.1.fs), .d (D.exv s20.2.cls s20.2.fs), .un] : List B) from (tg_name 1))) (fun y22 hy23 _ _ _ _ _ => (ed_cmp (od_eqI _ _) (ed_var 1 (hX.nm rfl) (blk_vs hX (vis_l (by decide +kernel))) rfl) (ed_var 3 (hX.nm rfl) (blk_vs hX (vis_c (by decide +kernel))) rfl)))) (fun v21 hv21 => (show BC X E ([.d (D.scr a0), .d (D.int y3), .d (D.int v4), .d (D.int v5), .d (D.int v6), .d (D.str v11), .d (D.exv s20.1.cls s20.1.fs), .d (D.exv s20.2.cls s20.2.fs), .own (.lst (List.map D.bl v21))] : List B) _ _ _ _ _ from (c_ifj (Γj := (fun s31 : (List Bool) => ([.d (D.scr a0), .d (D.int y3), .d (D.int v4), .d (D.int v5), .d (D.int v6), .d (D.str v11), .d (D.exv s20.1.cls s20.1.fs), .d (D.exv s20.2.cls s20.2.fs), .own (.lst (List.map D.bl s31))] : List B))) (et_cmp (od_eqI _ _) (ed_var 3 (hX.nm rfl) (hX.vs (vis_c lk_law_law_way)) rfl) ed_int) (fun h26 => (c_chk (fun h30 => (have ⟨c28, c29⟩ := h30; (c_setO 8 (fun z : (List Bool) => OO.lst (List.map D.bl z)) hX rfl (loc_l lk_law_law_due) (eo_repM (EvO.el (eo_lst (ea_cons ed_bl ea_nil) (by show 1 ≤ sizeLine; decide))) ed_int c28 c29) (fun v27 hv27 => (show BC X E ([.d (D.scr a0), .d (D.int y3), .d (D.int v4), .d (D.int v5), .d (D.int v6), .d (D.str v11), .d (D.exv s20.1.cls s20.1.fs), .d (D.exv s20.2.cls s20.2.fs), .own (.lst (List.map D.bl v27))] : List B) _ _ _ _ _ from (c_nil (.keep (.keep (.keep (.keep (.keep (.keep (.keep (.keep (.keep .nil))))))))))))))))) (fun h26 => (c_nil (.keep (.keep (.keep (.keep (.keep (.keep (.keep (.keep (.keep .nil))))))))))) (fun s31 => (c_chk (fun h51 => (have ⟨c32, c38⟩ := h51; (c_ifr (et_lendG 8 (lendOw rfl) (show ET X ([.d (D.scr a0), .d (D.int y3), .d (D.int v4), .d (D.int v5), .d (D.int v6), .d (D.str v11), .d (D.exv s20.1.cls s20.1.fs), .d (D.exv s20.2.cls s20.2.fs), .d (D.lst (List.map D.bl s31))] : List B) _ _ from (et_w (ew_or (et_cmp (od_neT (eqT_lst (eqT_bl 7)) (room64 hX.room) ((flagsF s20.1).get []) s31) (EvO.frz (eo_okS (z := fun z : (List Bool) => OO.lst (List.map D.bl z)) [] (fun E tk => (es_call (E := E) s20.1 tk kn_flags (hM.room hX (by decide)) (hX.gl lk_law_law_flags) (ea2_d (ed_var 6 (hX.nm rfl) (hX.vs (vis_l lk_law_law_e)) rfl) ea2_nil) trivial)) (fun _ => rfl) c32)) (ed_var 8 (hX.nm rfl) (hX.vs (vis_l lk_law_law_due)) rfl)) (fun h37 => (have ⟨c33, c36⟩ := (c38 h37); (ew_or (et_not (et_val (ed_isV (hX.gl lk_law_isinstance) m_isinstance (ed_var 6 (hX.nm rfl) (hX.vs (vis_l lk_law_law_e)) rfl) (hX.gl lk_law_HouseError) xi_HouseError c33))) (fun h35 => (have c34 := (c36 h35); (ew_or1 (et_not (et_val (ed_isVB (hX.gl lk_law_isinstance) m_isinstance (ed_var 6 (hX.nm rfl) (hX.vs (vis_l lk_law_law_e)) rfl) (ed_ty (n := "ValueError") (hX.gl lk_law_ValueError) m_ValueError (by decide +kernel)) xi_ValueError c34))))))))))))) (fun h39 => (c_ret ed_bl rfl)) (fun h39 => (c_chk (fun h50 => (have ⟨c40, c44⟩ := h50; (c_ifr (et_w (ew_or (et_not (et_val (ed_okS (z := D.bl) false (fun E tk => (es_call (E := E) ((s20.1, v5, v6, v11) : Exn × Int × Int × (List Nat)) tk kn_keeps (hM.room hX (by decide)) (hX.gl lk_law_law_keeps) (ea2_d (ed_var 6 (hX.nm rfl) (hX.vs (vis_l lk_law_law_e)) rfl) (ea2_d (ed_var 3 (hX.nm rfl) (hX.vs (vis_c lk_law_law_way)) rfl) (ea2_d (ed_var 4 (hX.nm rfl) (hX.vs (vis_l lk_law_law_at)) rfl) (ea2_d (ed_var 5 (hX.nm rfl) (hX.vs (vis_l lk_law_law_word)) rfl) ea2_nil)))) trivial)) (fun _ => rfl) c40))) (fun h43 => (have ⟨c41, c42⟩ := (c44 h43); (ew_or1 (et_not (et_val (ed_okS (z := D.bl) false (fun E tk => (es_call (E := E) ((s20.2, v5, (v6 + (1 : Int)), (v11 ++ ([97] : List Nat))) : Exn × Int × Int × (List Nat)) tk kn_keeps (hM.room hX (by decide)) (hX.gl lk_law_law_keeps) (ea2_d (ed_var 7 (hX.nm rfl) (hX.vs (vis_l lk_law_law_other)) rfl) (ea2_d (ed_var 3 (hX.nm rfl) (hX.vs (vis_c lk_law_law_way)) rfl) (ea2_d (ed_op (od_add _ _) (ed_var 4 (hX.nm rfl) (hX.vs (vis_l lk_law_law_at)) rfl) ed_int) (ea2_d (ed_op (od_addS _ _ c41) (ed_var 5 (hX.nm rfl) (hX.vs (vis_l lk_law_law_word)) rfl) (ed_str ([97] : List Nat) (by decide +kernel) (by decide))) ea2_nil)))) trivial)) (fun _ => rfl) c42)))))))) (fun h45 => (c_ret ed_bl rfl)) (fun h45 => (c_chk (fun h49 => (have ⟨c46, c47⟩ := h49; (c_ifr (et_not (et_val (ed_okS (z := D.bl) false (fun E tk => (es_call (E := E) ((subF v4 (7 : Int)).get (0 : Int)) tk kn_fault (hM.room hX (by decide)) (hX.gl lk_law_law_fault) (ea2_d (ed_okS (z := D.int) (0 : Int) (fun E tk => (es_call (E := E) ((v4, (7 : Int)) : Int × Int) tk kn_sub (hM.room hX (by decide)) (hX.gl lk_law_law_sub) (ea2_d (ed_var 2 (hX.nm rfl) (hX.vs (vis_l lk_law_law_cell_here)) rfl) (ea2_d ed_int ea2_nil)) trivial)) (fun _ => rfl) c46) ea2_nil) trivial)) (fun _ => rfl) c47))) (fun h48 => (c_ret ed_bl rfl)) (fun h48 => (c_nil (.keep (.drop (.drop (.drop (.drop (.drop (.drop (.drop (.drop .nil)))))))))))))))))))))))))))))))))))))))))))))))))))))) (fun s55 => (show BC X E ([.d (D.scr a0), .un, .un, .un, .un, .un, .un, .un, .un] : List B) _ _ _ _ _ from (c_ret ed_bl rfl)))))))
abbrev sp_law (K : PySem.W.Frag) : Sp := spG K (A := (List Int)) (fun a => [.d (D.scr a)]) (fun _ => True) (fun a => rsOf (fun z : Bool => Res.v (D.bl z)) (lawF a))
theorem ok_law {P : Program} {w : World} {K : PySem.W.Frag} {mg : Str → Option Value} {base : Heap} {f : Addr} {fd : FuncData} (F : Fun K "law" "law" s_law f fd) (m_ValueError : mg "ValueError" = none) (m_isinstance : mg "isinstance" = none) (m_len : mg "len" = none) (m_max : mg "max" = none) (m_min : mg "min" = none) (m_range : mg "range" = none) (kn_cell : Kn P w K mg base "_law_cell" 1 (sp_cell K)) (kn_fault : Kn P w K mg base "_law_fault" 3 (sp_fault K)) (kn_flags : Kn P w K mg base "_law_flags" 1 (sp_flags K)) (kn_keeps : Kn P w K mg base "_law_keeps" 1 (sp_keeps K)) (kn_name : Kn P w K mg base "_law_name" 2 (sp_name K)) (kn_number : Kn P w K mg base "_law_number" 1 (sp_number K)) (kn_pick : Kn P w K mg base "_law_pick" 1 (sp_pick K)) (kn_placed : Kn P w K mg base "_law_placed" 3 (sp_placed K)) (kn_sub : Kn P w K mg base "_law_sub" 1 (sp_sub K)) (kn_worded : Kn P w K mg base "_law_worded" 3 (sp_worded K)) (xi_HouseError : ExIC K mg "HouseError" isx_HouseError) (xi_ValueError : ExI K (.type "ValueError") isx_ValueError) : FnOk P w K mg base (L2.CX P w) 4 f fd ["_law_script"] (sp_law K) :=
  def_okC (A := (List Int)) F sc_law .stk (.inl rfl) (fun _ => rfl) (fun a => c_law a) (fun a X E e1 e2 e3 e4 e5 hX hM => by
    subst e1 e2 e3 e4 e5
    exact bd_law X E hX hM m_ValueError m_isinstance m_len m_max m_min m_range kn_cell kn_fault kn_flags kn_keeps kn_name kn_number kn_pick kn_placed kn_sub kn_worded xi_HouseError xi_ValueError a)
/-! names and addresses -/
def nameOk (s : List Nat) : Bool := decide ((1 : Int) ≤ (s.length : Int)) && decide ((s.length : Int) ≤ (8 : Int)) && s.all fun c => decide (c ∈ LETTERS)
def allOk (ls : List (List Nat)) (m : Int) : Bool := decide ((1 : Int) ≤ (ls.length : Int)) && decide ((ls.length : Int) ≤ m) && ls.all nameOk
structure Word1 (l : List Nat) : Prop where
  pos : 0 < l.length
  few : l.length ≤ 8
  ltr : ∀ x ∈ l, x ∈ LETTERS
theorem ltr_lt {c : Nat} (h : c ∈ LETTERS) : 97 ≤ c ∧ c ≤ 122 := by
  unfold LETTERS at h
  simp only [List.mem_cons, List.not_mem_nil, or_false] at h
  omega
theorem Word1.ok {l : List Nat} (h : Word1 l) : nameOk l = true := by
  have h1 := h.pos
  have h2 := h.few
  unfold nameOk
  rw [decide_eq_true (show (1 : Int) ≤ (l.length : Int) by omega), decide_eq_true (show (l.length : Int) ≤ 8 by omega)]
  show (true && true && _) = true
  rw [Bool.true_and, Bool.true_and, List.all_eq_true]
  exact fun c hc => decide_eq_true (h.ltr c hc)
theorem Word1.of {l : List Nat} (h : nameOk l = true) : Word1 l := by
  unfold nameOk at h
  rw [Bool.and_eq_true, Bool.and_eq_true, List.all_eq_true] at h
  have h1 := of_decide_eq_true h.1.1
  have h2 := of_decide_eq_true h.1.2
  exact ⟨by omega, by omega, fun c hc => of_decide_eq_true (h.2 c hc)⟩
theorem Word1.no {l : List Nat} (h : Word1 l) {c : Nat} (hc : c < 97) : c ∉ l := fun m => by
  have := ltr_lt (h.ltr c m)
  omega
/-- names with points between -/
structure Path (n : Nat) (ns : List (List Nat)) : Prop where
  pos : 0 < ns.length
  few : ns.length ≤ n
  all : ∀ x ∈ ns, Word1 x
theorem Path.ok {n : Nat} {ns : List (List Nat)} (h : Path n ns) : allOk ns (n : Int) = true := by
  have h1 := h.pos
  have h2 := h.few
  unfold allOk
  rw [decide_eq_true (show (1 : Int) ≤ (ns.length : Int) by omega), decide_eq_true (show (ns.length : Int) ≤ (n : Int) by omega)]
  show (true && true && ns.all nameOk) = true
  rw [Bool.true_and, Bool.true_and, List.all_eq_true]
  exact fun x hx => (h.all x hx).ok
theorem Path.of {n : Nat} {ns : List (List Nat)} (h : allOk ns (n : Int) = true) : Path n ns := by
  unfold allOk at h
  rw [Bool.and_eq_true, Bool.and_eq_true, List.all_eq_true] at h
  have h1 := of_decide_eq_true h.1.1
  have h2 := of_decide_eq_true h.1.2
  exact ⟨by omega, by omega, fun x hx => .of (h.2 x hx)⟩
theorem Path.split {n : Nat} {ns : List (List Nat)} (h : Path n ns) : splitS (joinS [46] ns) [46] = ns := split_join (by decide) (List.length_pos_iff.mp h.pos) fun p hp => (h.all p hp).no (by decide)
theorem mem_joinL {c s : Nat} : ∀ {ls : List (List Nat)}, c ∈ TL.joinL [s] ls → c = s ∨ ∃ x ∈ ls, c ∈ x
  | [], h => by cases h
  | [p], h => .inr ⟨p, by simp, h⟩
  | p :: q :: r, h => by
    have h' : c ∈ p ++ ([s] ++ TL.joinL [s] (q :: r)) := h
    rw [List.mem_append, List.mem_append, List.mem_singleton] at h'
    rcases h' with h' | h' | h'
    · exact .inr ⟨p, by simp, h'⟩
    · exact .inl h'
    · rcases mem_joinL h' with e | ⟨x, hx, hc⟩
      · exact .inl e
      · exact .inr ⟨x, List.mem_cons_of_mem _ hx, hc⟩
theorem Path.chr {n : Nat} {ns : List (List Nat)} (h : Path n ns) {c : Nat} (hc : c ∈ joinS [46] ns) : c = 46 ∨ (97 ≤ c ∧ c ≤ 122) := by
  rw [joinS_eq] at hc
  rcases mem_joinL hc with e | ⟨x, hx, hc⟩
  · exact .inl e
  · exact .inr (ltr_lt ((h.all x hx).ltr c hc))
theorem Path.no {n : Nat} {ns : List (List Nat)} (h : Path n ns) : 32 ∉ joinS [46] ns := fun m => by
  rcases h.chr m with e | e <;> omega
theorem Path.jok {n : Nat} {ns : List (List Nat)} (h : Path n ns) (hn : n ≤ 4) : (ns.map (·.length)).sum + ns.length * ([46] : List Nat).length ≤ LMax := join_okL (n := 8) (m := 4) (k := 1) (fun x hx => (h.all x hx).few) (Nat.le_trans h.few hn) (Nat.le_refl 1) (by decide)
theorem Path.len {n : Nat} {ns : List (List Nat)} (h : Path n ns) (hn : n ≤ 4) : (joinS [46] ns).length ≤ 36 := joinS_len (n := 8) (m := 4) (k := 1) (fun x hx => (h.all x hx).few) (Nat.le_trans h.few hn) (Nat.le_refl 1)
theorem joinL_pos {s p : List Nat} {r : List (List Nat)} (h : 0 < p.length) : 0 < (TL.joinL s (p :: r)).length := by
  cases r with
  | nil => exact h
  | cons q r =>
    show 0 < (p ++ (s ++ TL.joinL s (q :: r))).length
    rw [List.length_append]
    omega
theorem Path.ne {n : Nat} {ns : List (List Nat)} (h : Path n ns) : 0 < (joinS [46] ns).length := by
  cases ns with
  | nil => exact absurd h.pos (by decide)
  | cons p r =>
    rw [joinS_eq]
    exact joinL_pos (h.all p (by simp)).pos

/-! what a cell gives -/
theorem pick_ex (c k : Int) {m : Int} (h0 : 0 ≤ k) (h1 : k < 40) (hm : 0 < m) : ∃ v, pickF c k m = .ok v ∧ 0 ≤ v ∧ v < m := by
  have fin : ∀ x : Int, ∃ v, (Out.ok (x % m) : Out Int) = .ok v ∧ 0 ≤ v ∧ v < m := fun x => ⟨_, rfl, Int.emod_nonneg _ (by omega), Int.emod_lt_of_pos _ hm⟩
  unfold pickF c_pick
  cases decide (c % (2 : Int) = (1 : Int)) && decide ((0 : Int) < c / 2 ^ ((400 : Int)).toNat) with
  | true =>
    rw [if_pos rfl, chk_pos ⟨by omega, hm⟩]
    exact fin _
  | false =>
    simp only [chk_true, isOk_ok, isOk_err, get_okE, bnd_eq, bndO_okE, bndO_errE, bind_goE, bind_retE, up_retE, out_retE, out_goE, bind_iteE, up_iteE, out_iteE, try_okE, true_and, and_true, and_self, forall_const, implies_true, Bool.false_eq_true, if_false]
    have q7 := ix_all (P := fun x : Int => 0 < x ∧ x < 2 ^ 32) (xs := [48271, 1000003, 15485863, 32452843, 49979687, 67867967, 86028121, 104395301]) (i := k % 8) (d := 0) (by decide) (by show -(8 : Int) ≤ _ ∧ _ < (8 : Int); omega)
    have i8 : -(([48271, 1000003, 15485863, 32452843, 49979687, 67867967, 86028121, 104395301] : List Int).length : Int) ≤ k % 8 ∧ k % 8 < (([48271, 1000003, 15485863, 32452843, 49979687, 67867967, 86028121, 104395301] : List Int).length : Int) := by
      show -(8 : Int) ≤ _ ∧ _ < (8 : Int)
      omega
    have i5 : -(([179424673, 373587883, 573259391, 776531401, 982451653] : List Int).length : Int) ≤ k / 8 ∧ k / 8 < (([179424673, 373587883, 573259391, 776531401, 982451653] : List Int).length : Int) := by
      show -(5 : Int) ≤ _ ∧ _ < (5 : Int)
      omega
    have e0 : (-(2 ^ 64) : Int) < 0 := by decide
    have e1 : (2305843009213693951 : Int) < 2 ^ 64 := by decide
    have e2 : (2 : Int) ^ 32 < 2 ^ 64 := by decide
    have e3 : (1000000000039 : Int) + 41 < 2 ^ 64 := by decide
    rw [chk_pos i8, chk_pos ⟨i5, .inl ⟨by omega, by omega⟩⟩]
    rw [chk_pos ⟨by decide, .inl ⟨by omega, by omega⟩, by decide⟩]
    rw [chk_pos (.inl ⟨by omega, by omega⟩)]
    rw [chk_pos ⟨.inl ⟨by omega, by omega⟩, hm⟩]
    exact fin _
noncomputable def pickL (c k m : Int) : Int := (pickF c k m).get 0
theorem pickF_eq (c k : Int) {m : Int} (h0 : 0 ≤ k) (h1 : k < 40) (hm : 0 < m) : pickF c k m = .ok (pickL c k m) := by
  obtain ⟨v, e, _⟩ := pick_ex c k h0 h1 hm
  unfold pickL
  rw [e]
  rfl
theorem pickL_lt (c k : Int) {m : Int} (h0 : 0 ≤ k) (h1 : k < 40) (hm : 0 < m) : 0 ≤ pickL c k m ∧ pickL c k m < m := by
  obtain ⟨v, e, h⟩ := pick_ex c k h0 h1 hm
  unfold pickL
  rw [e]
  exact h
noncomputable def cellL (ns : List Int) (k : Int) : Int := (cellF ns k).get 0
theorem cellF_eq (ns : List Int) {k : Int} (h0 : 0 ≤ k) : cellF ns k = .ok (cellL ns k) := by
  unfold cellL cellF c_cell
  by_cases h : k < (ns.length : Int)
  · rw [decide_eq_true h, if_pos rfl, chk_pos ⟨by omega, h⟩]
    rfl
  · rw [decide_eq_false h]
    rfl

noncomputable def subL (c k : Int) : Int := (subF c k).get 0
theorem subF_eq (c : Int) {k : Int} (h0 : 0 ≤ k) (h1 : k < 1000) : subF c k = .ok (subL c k) := by
  unfold subL subF c_sub
  rw [chk_pos fun _ => by omega]
  cases decide (c % (2 : Int) = (1 : Int)) && decide ((0 : Int) < c / 2 ^ (((480 : Int) * k) + (400 : Int)).toNat) with
  | true =>
    rw [if_pos rfl, chk_pos (by omega)]
    rfl
  | false =>
    rw [if_neg Bool.false_ne_true, chk_pos ⟨by omega, by omega⟩]
    rfl

noncomputable def numberL (c m : Int) : Int := (numberF c m).get 0
theorem number_ex (c : Int) {m : Int} (hm : 0 < m) : ∃ v, numberF c m = .ok v ∧ 0 ≤ v ∧ v < m := by
  have fin : ∀ x : Int, ∃ v, (Out.ok (x % m) : Out Int) = .ok v ∧ 0 ≤ v ∧ v < m := fun x => ⟨_, rfl, Int.emod_nonneg _ (by omega), Int.emod_lt_of_pos _ hm⟩
  unfold numberF c_number
  cases decide (c % (2 : Int) = (1 : Int)) && decide ((0 : Int) < c / 2 ^ ((400 : Int)).toNat) with
  | true =>
    rw [if_pos rfl, chk_pos hm]
    exact fin _
  | false =>
    rw [if_neg Bool.false_ne_true, chk_pos hm]
    exact fin _
theorem numberF_eq (c : Int) {m : Int} (hm : 0 < m) : numberF c m = .ok (numberL c m) := by
  obtain ⟨v, e, _⟩ := number_ex c hm
  unfold numberL
  rw [e]
  rfl
theorem numberL_lt (c : Int) {m : Int} (hm : 0 < m) : 0 ≤ numberL c m ∧ numberL c m < m := by
  obtain ⟨v, e, h⟩ := number_ex c hm
  unfold numberL
  rw [e]
  exact h

noncomputable def nameL (c : Int) : List Nat := (nameF c).get []
theorem nameF_ok (c : Int) : nameF c = .ok (nameL c) ∧ Word1 (nameL c) := by
  have q := pickL_lt c 30 (m := 8) (by decide) (by decide) (by decide)
  have q2 : ∀ y ∈ rints 0 (1 + pickL c 30 8).toNat, 0 ≤ y ∧ y < 8 := fun y hy => by
    have := rints_mem hy
    omega
  have e2 : ∀ y ∈ rints 0 (1 + pickL c 30 8).toNat, pickF c (31 + y) 26 = .ok (pickL c (31 + y) 26) ∧ 0 ≤ pickL c (31 + y) 26 ∧ pickL c (31 + y) 26 < 26 := fun y hy => by
    have := q2 y hy
    exact ⟨pickF_eq _ _ (by omega) (by omega) (by decide), pickL_lt _ _ (by omega) (by omega) (by decide)⟩
  have k : ∃ s, nameF c = .ok s ∧ Word1 s := by
    unfold nameF c_name
    simp only [chk_true, isOk_ok, isOk_err, get_okE, bnd_eq, bndO_okE, bndO_errE, bind_goE, bind_retE, up_retE, out_retE, out_goE, bind_iteE, up_iteE, out_iteE, try_okE, true_and, and_true, and_self, forall_const, implies_true, pickF_eq c 30 (m := 8) (by decide) (by decide) (by decide)]
    have jk : ∀ f : Int → Nat, (List.map (·.length) (List.map (fun y : Int => [f y]) (rints 0 (1 + pickL c 30 8).toNat))).sum + (List.map (fun y : Int => [f y]) (rints 0 (1 + pickL c 30 8).toNat)).length * ([] : List Nat).length ≤ LMax := fun f => join_okL (n := 1) (m := 8) (k := 0) (fun x hx => by
        obtain ⟨y, _, rfl⟩ := List.mem_map.mp hx
        exact Nat.le_refl _) (by rw [List.length_map, rints_len]; omega) (Nat.le_refl 0) (by decide)
    rw [chk_pos ⟨by omega, fun y hy => ⟨by rw [(e2 y hy).1]; trivial, by rw [(e2 y hy).1, get_okE]; show -(26 : Int) ≤ _ ∧ _ < (26 : Int); have := (e2 y hy).2; omega⟩, by rw [rints_len, sizeLine_eq]; omega, jk _⟩]
    · refine ⟨_, rfl, ?_⟩
      have hl : ∀ xs : List Int, (List.map (fun y : Int => [(ix ([97, 98, 99, 100, 101, 102, 103, 104, 105, 106, 107, 108, 109, 110, 111, 112, 113, 114, 115, 116, 117, 118, 119, 120, 121, 122] : List Nat) ((pickF c (31 + y) 26).get 0) 0)]) xs).flatten.length = xs.length := fun xs => by
        induction xs with
        | nil => rfl
        | cons x xs ih =>
          rw [List.map_cons, List.flatten_cons, List.length_append, ih]
          show 1 + xs.length = xs.length + 1
          omega
      rw [joinS_nil]
      refine ⟨by rw [hl, rints_len]; omega, by rw [hl, rints_len]; omega, fun x hx => ?_⟩
      obtain ⟨l, h1, h2⟩ := List.mem_flatten.mp hx
      obtain ⟨y, hy, rfl⟩ := List.mem_map.mp h1
      rw [List.mem_singleton] at h2
      subst h2
      rw [(e2 y hy).1, get_okE]
      exact ix_mem (xs := LETTERS) 0 (by show -(26 : Int) ≤ _ ∧ _ < (26 : Int); have := (e2 y hy).2; omega)
  obtain ⟨s, e, h⟩ := k
  unfold nameL
  rw [e]
  exact ⟨rfl, h⟩

/-! refusals apart -/
def excE (w : Nat) (at0 : Int) (wd : List Nat) : Exn := match w with
  | 0 => ⟨"NoText", xNoText at0⟩
  | 1 => ⟨"TooMany", xTooMany at0⟩
  | 2 => ⟨"Twice", xTwice at0⟩
  | 3 => ⟨"Double", xDouble at0⟩
  | 4 => ⟨"Orphan", xOrphan at0⟩
  | 5 => ⟨"Clash", xClash at0⟩
  | 6 => ⟨"NoRow", xNoRow at0⟩
  | 7 => ⟨"NoPart", xNoPart wd⟩
  | 8 => ⟨"NoDrop", xNoDrop wd⟩
  | 9 => ⟨"NoName", xNoName wd⟩
  | 10 => ⟨"NoExpr", []⟩
  | 11 => ⟨"TooWide", []⟩
  | _ => ⟨"HouseError", []⟩
def dueL (w : Nat) : List Bool := if w = 12 then List.replicate 13 false else (rints 0 13).map fun y => decide (y = (w : Int))
theorem ways13 {w : Nat} (h : w < 13) : w = 0 ∨ w = 1 ∨ w = 2 ∨ w = 3 ∨ w = 4 ∨ w = 5 ∨ w = 6 ∨ w = 7 ∨ w = 8 ∨ w = 9 ∨ w = 10 ∨ w = 11 ∨ w = 12 := by omega
theorem placed_eq {w : Nat} (h : w < 13) (h7 : w < 7) (a : Int) (wd : List Nat) : placedF (w : Int) a = .ok (excE w a wd) := by
  rcases ways13 h with rfl | rfl | rfl | rfl | rfl | rfl | rfl | rfl | rfl | rfl | rfl | rfl | rfl <;> first | rfl | exact absurd h7 (by decide)
theorem worded_eq {w : Nat} (h : w < 13) (h7 : ¬ w < 7) (a : Int) (wd : List Nat) : wordedF (w : Int) wd = .ok (excE w a wd) := by
  rcases ways13 h with rfl | rfl | rfl | rfl | rfl | rfl | rfl | rfl | rfl | rfl | rfl | rfl | rfl <;> first | rfl | exact absurd (by decide) h7
theorem flags_of (n : Str) (fs : List (Str × D)) (h1 : (isx_NoText n).isSome = true ∧ (isx_TooMany n).isSome = true ∧ (isx_Twice n).isSome = true ∧ (isx_Double n).isSome = true) (h2 : (isx_Orphan n).isSome = true ∧ (isx_Clash n).isSome = true ∧ (isx_NoRow n).isSome = true ∧ (isx_NoPart n).isSome = true)
    (h3 : (isx_NoDrop n).isSome = true ∧ (isx_NoName n).isSome = true ∧ (isx_NoExpr n).isSome = true ∧ (isx_TooWide n).isSome = true) (h4 : (isx_Fault n).isSome = true) : flagsF ⟨n, fs⟩ = .ok [((isx_NoText n).getD false), ((isx_TooMany n).getD false), ((isx_Twice n).getD false), ((isx_Double n).getD false), ((isx_Orphan n).getD false), ((isx_Clash n).getD false), ((isx_NoRow n).getD false), ((isx_NoPart n).getD false), ((isx_NoDrop n).getD false), ((isx_NoName n).getD false), ((isx_NoExpr n).getD false), ((isx_TooWide n).getD false), ((isx_Fault n).getD false)] := by
  unfold flagsF c_flags
  rw [chk_pos (by exact h1), bnd_eq, chk_pos (by exact ⟨h2.1, h2.2.1, h2.2.2.1, h2.2.2.2, by rw [sizeLine_eq]; show 4 + 4 ≤ _; decide⟩), bnd_eq, chk_pos (by exact ⟨h3.1, h3.2.1, h3.2.2.1, h3.2.2.2, by rw [sizeLine_eq]; show 8 + 4 ≤ _; decide⟩), bnd_eq, chk_pos (by exact ⟨h4, by rw [sizeLine_eq]; show 12 + 1 ≤ _; decide⟩)]
  rfl
theorem flags_eq {w : Nat} (h : w < 13) (a : Int) (wd : List Nat) : flagsF (excE w a wd) = .ok (dueL w) ∧ isx_HouseError (excE w a wd).cls = some true ∧ isx_ValueError (excE w a wd).cls = some true := by
  rcases ways13 h with rfl | rfl | rfl | rfl | rfl | rfl | rfl | rfl | rfl | rfl | rfl | rfl | rfl <;> exact ⟨flags_of _ _ ⟨rfl, rfl, rfl, rfl⟩ ⟨rfl, rfl, rfl, rfl⟩ ⟨rfl, rfl, rfl, rfl⟩ rfl, rfl, rfl⟩
theorem keeps_eq {w : Nat} (h : w < 13) (a : Int) (wd : List Nat) : keepsF (excE w a wd) (w : Int) a wd = .ok true := by
  rcases ways13 h with rfl | rfl | rfl | rfl | rfl | rfl | rfl | rfl | rfl | rfl | rfl | rfl | rfl
  iterate 7
    · unfold keepsF c_keeps
      rw [if_pos (by exact rfl), chk_pos (by exact ⟨rfl, rfl, rfl, fun _ => ⟨rfl, rfl, rfl, fun _ => ⟨rfl, rfl, rfl⟩⟩⟩)]
      show Out.ok (true && (!false && decide (a = a))) = _
      rw [decide_eq_true rfl]
      rfl
  iterate 2
    · unfold keepsF c_keeps
      rw [if_neg (by exact Bool.false_ne_true), if_pos (by exact rfl), chk_pos (by exact ⟨rfl, rfl, rfl, fun _ => ⟨rfl, rfl, rfl⟩⟩)]
      show Out.ok (true && decide (wd = wd)) = _
      rw [decide_eq_true rfl]
      rfl
  · unfold keepsF c_keeps
    rw [if_neg (by exact Bool.false_ne_true), if_neg (by exact Bool.false_ne_true), chk_pos (by exact fun _ => ⟨rfl, rfl, rfl, fun _ => ⟨rfl, rfl, rfl⟩⟩)]
    show Out.ok (false || (true && decide (wd = wd))) = _
    rw [decide_eq_true rfl]
    rfl
  iterate 3
    · unfold keepsF c_keeps
      rw [if_neg (by exact Bool.false_ne_true), if_neg (by exact Bool.false_ne_true), chk_pos (by exact fun z => nomatch z)]
      rfl
theorem trail_k (v : List (List Nat × Int)) : eqk 8 (D.lst (List.map (fun z : List Nat × Int => D.tup [D.str z.1, D.int z.2]) v)) = true := (eqT_lst (eqT_t2 (eqT_str 6) (eqT_int 6))).k v
theorem trail_e (v : List (List Nat × Int)) : eqD (D.lst (List.map (fun z : List Nat × Int => D.tup [D.str z.1, D.int z.2]) v)) (D.lst (List.map (fun z : List Nat × Int => D.tup [D.str z.1, D.int z.2]) v)) = true := ((eqT_lst (eqT_t2 (eqT_str 6) (eqT_int 6))).eq v v).trans (decide_eq_true rfl)
theorem faultF_ok (c : Int) : faultF c = .ok true := by
  have p9 := pickL_lt c 9 (m := 4) (by decide) (by decide) (by decide)
  have p1 := pickL_lt c 1 (m := 6) (by decide) (by decide) (by decide)
  unfold faultF c_fault
  rw [pickF_eq c 9 (m := 4) (by decide) (by decide) (by decide), get_okE, chk_pos (by
    refine ⟨trivial, ⟨by omega, by omega⟩, fun y hy => ?_, by rw [rints_len, sizeLine_eq]; omega⟩
    have hy := rints_mem hy
    rw [subF_eq c (k := y) (by omega) (by omega), get_okE, (nameF_ok _).1, pickF_eq c (2 + y) (m := 12) (by omega) (by omega) (by decide)]
    exact ⟨trivial, trivial, trivial⟩), bnd_eq, pickF_eq c 1 (m := 6) (by decide) (by decide) (by decide), get_okE, chk_pos (by exact ⟨trivial, by show -(6 : Int) ≤ _; omega, by show _ < (6 : Int); omega⟩), bnd_eq, bnd_eq, subF_eq c (k := 5) (by decide) (by decide), subF_eq c (k := 6) (by decide) (by decide), get_okE, get_okE, (nameF_ok _).1, (nameF_ok _).1, get_okE, get_okE, chk_pos (by exact ⟨trivial, trivial, trivial, trivial⟩), bnd_eq]
  generalize ix ([([117, 110, 107, 110, 111, 119, 110] : List Nat), ([117, 110, 102, 105, 108, 108, 101, 100] : List Nat), ([109, 105, 115, 115, 105, 110, 103] : List Nat), ([110, 111, 112, 97, 114, 116] : List Nat), ([110, 111, 100, 101, 101, 100] : List Nat), ([110, 111, 110, 117, 109, 98, 101, 114] : List Nat)] : List (List Nat)) (pickL c 1 6) [] = wd
  have ltr : (List.map (fun y4 : Int => (((nameF ((subF c y4).get (0 : Int))).get []), ((pickF c ((2 : Int) + y4) (12 : Int)).get (0 : Int)))) (rints 0 (pickL c 9 4).toNat)).length ≤ 4 := by
    rw [List.length_map, rints_len]
    omega
  generalize List.map (fun y4 : Int => (((nameF ((subF c y4).get (0 : Int))).get []), ((pickF c ((2 : Int) + y4) (12 : Int)).get (0 : Int)))) (rints 0 (pickL c 9 4).toNat) = tr at ltr
  generalize nameL (subL c 5) = n5
  generalize nameL (subL c 6) = n6
  rw [chk_pos (by rw [sizeLine_eq]; omega), bnd_eq, bnd_eq]
  have e1 : (⟨"Fault", xFault wd tr n5 n6⟩ : Exn).fs.lookup ("trail" : Str) = some (D.lst (List.map (fun z : List Nat × Int => D.tup [D.str z.1, D.int z.2]) tr)) := rfl
  have e2 : (⟨"Fault", xFault ([109, 105, 115, 115, 105, 110, 103] : List Nat) ([(([98] : List Nat), (2 : Int))] : List ((List Nat) × Int)) ([98] : List Nat) ([99] : List Nat)⟩ : Exn).fs.lookup ("trail" : Str) = some (D.lst (List.map (fun z : List Nat × Int => D.tup [D.str z.1, D.int z.2]) [([98], 2)])) := rfl
  rw [e1, e2]
  rw [chk_pos (by exact ⟨rfl, rfl, rfl, fun _ => ⟨rfl, rfl, trail_k tr, trail_k tr, fun _ => ⟨rfl, rfl, trail_k _, trail_k _, fun _ => ⟨rfl, rfl, rfl⟩⟩⟩⟩)]
  rw [show (some (D.lst (List.map (fun z : List Nat × Int => D.tup [D.str z.1, D.int z.2]) tr))).getD D.non = D.lst (List.map (fun z : List Nat × Int => D.tup [D.str z.1, D.int z.2]) tr) from rfl, show (some (D.lst (List.map (fun z : List Nat × Int => D.tup [D.str z.1, D.int z.2]) [(([98] : List Nat), (2 : Int))]))).getD D.non = D.lst (List.map (fun z : List Nat × Int => D.tup [D.str z.1, D.int z.2]) [([98], 2)]) from rfl, trail_e, trail_e, if_neg (by exact Bool.false_ne_true)]
  rw [chk_pos (by exact ⟨rfl, rfl, rfl, fun _ => ⟨rfl, rfl, rfl, trivial, trivial, fun _ => ⟨rfl, rfl, rfl, trivial, trivial⟩⟩⟩)]
  have c1 : ((!decide (asS ((List.lookup ("word" : Str) (⟨"Fault", xFault wd tr n5 n6⟩ : Exn).fs).getD D.non) = wd)) || ((!decide (asS ((List.lookup ("whose" : Str) (⟨"Fault", xFault wd tr n5 n6⟩ : Exn).fs).getD D.non) = n5)) || (!decide (asS ((List.lookup ("name" : Str) (⟨"Fault", xFault wd tr n5 n6⟩ : Exn).fs).getD D.non) = n6)))) = false := by
    show ((!decide (wd = wd)) || ((!decide (n5 = n5)) || (!decide (n6 = n6)))) = false
    rw [decide_eq_true rfl, decide_eq_true rfl, decide_eq_true rfl]
    rfl
  rw [if_neg (by rw [c1]; exact Bool.false_ne_true), flags_of "Fault" _ ⟨rfl, rfl, rfl, rfl⟩ ⟨rfl, rfl, rfl, rfl⟩ ⟨rfl, rfl, rfl, rfl⟩ rfl, bndO_okE, chk_pos (by exact ⟨⟨by decide, by decide⟩, by rw [sizeLine_eq]; decide, by rw [sizeLine_eq]; decide, fun _ => ⟨rfl, fun _ => rfl⟩⟩)]
  rfl
theorem law_true (ns : List Int) (hl : ns.length ≤ 63) : lawF ns = .ok true := by
  obtain ⟨M, eM, hM⟩ : ∃ M : Int, M = (if (if (30 : Int) < (ns.length : Int) then (30 : Int) else (ns.length : Int)) > (1 : Int) then (if (30 : Int) < (ns.length : Int) then (30 : Int) else (ns.length : Int)) else (1 : Int)) ∧ (1 ≤ M ∧ M ≤ 30) := ⟨_, rfl, by split <;> (try split) <;> omega⟩
  unfold lawF c_law
  rw [← eM, chk_pos (by exact ⟨by omega, by omega⟩), loop_same fun y hy => ?_]
  · rfl
  · have hy := rints_mem hy
    rw [cellF_eq ns (k := y) (by omega), bndO_okE]
    generalize cellL ns y = c
    have p0 := pickL_lt c 0 (m := 13) (by decide) (by decide) (by decide)
    have p2 := pickL_lt c 2 (m := 2) (by decide) (by decide) (by decide)
    obtain ⟨w, ew⟩ := Int.eq_ofNat_of_zero_le p0.1
    have hw : w < 13 := by omega
    rw [pickF_eq c 0 (m := 13) (by decide) (by decide) (by decide), bndO_okE, ew, pickF_eq c 2 (m := 2) (by decide) (by decide) (by decide), pickF_eq c 1 (m := 13) (by decide) (by decide) (by decide), numberF_eq c (m := (10 : Int) ^ ((30 : Int)).toNat) (by decide), get_okE, get_okE, get_okE, chk_pos (by exact ⟨trivial, trivial, trivial, by show -(2 : Int) ≤ _; omega, by show _ < (2 : Int); omega⟩), bnd_eq, (nameF_ok c).1, get_okE, chk_pos (by exact trivial), bnd_eq]
    have hn := (nameF_ok c).2.few
    have hcut : (cutL (nameL c) none (some (7 : Int))).length ≤ 7 := by
      rw [show cutL (nameL c) none (some (7 : Int)) = (nameL c).take 7 from cut_to _ 7, List.length_take]
      omega
    generalize cutL (nameL c) none (some (7 : Int)) = wd at hcut
    generalize ix ([pickL c 1 13, numberL c ((10 : Int) ^ ((30 : Int)).toNat)] : List Int) (pickL c 2 2) 0 = at0
    have made : ∀ k : Exn × Exn → Co Unit Unit Bool, Co.bind (S := Exn × Exn) (if decide ((w : Int) < (7 : Int)) = true then bndO (placedF (w : Int) at0) fun v14 => bndO (placedF (w : Int) (at0 + (1 : Int))) fun v15 => .go (v14, v15) else bndO (wordedF (w : Int) wd) fun v16 => chk (wd.length + ([97] : List Nat).length ≤ LMax) (bndO (wordedF (w : Int) (wd ++ ([97] : List Nat))) fun v17 => .go (v16, v17))) k = k (excE w at0 wd, excE w (at0 + 1) (wd ++ [97])) := fun k => by
      by_cases h7 : w < 7
      · rw [decide_eq_true (by omega), if_pos rfl, placed_eq hw h7 at0 wd, placed_eq hw h7 (at0 + 1) (wd ++ [97])]
        rfl
      · rw [decide_eq_false (by omega), if_neg Bool.false_ne_true, worded_eq hw h7 at0 wd, worded_eq hw h7 (at0 + 1) (wd ++ [97]), bndO_okE, chk_pos (by rw [LMax_eq]; show _ + 1 ≤ _; omega)]
        rfl
    rw [made, chk_pos (by rw [rints_len, sizeLine_eq]; decide), bnd_eq]
    have due : ∀ k : List Bool → Co Unit Unit Bool, Co.bind (S := List Bool) (if decide ((w : Int) = (12 : Int)) = true then chk ((-(2 ^ 63) ≤ (13 : Int) ∧ (13 : Int) < 2 ^ 63) ∧ (([false] : List Bool).length * ((13 : Int)).toNat ≤ sizeLine)) (bnd ((List.replicate ((13 : Int)).toNat ([false] : List Bool)).flatten : List Bool) fun v27 => .go v27) else .go (List.map (fun y22 : Int => decide (y22 = (w : Int))) (rints 0 ((13 : Int)).toNat))) k = k (dueL w) := fun k => by
      unfold dueL
      by_cases h12 : w = 12
      · rw [if_pos h12, decide_eq_true (by omega), if_pos rfl, chk_pos (by exact ⟨⟨by decide, by decide⟩, by rw [sizeLine_eq]; decide⟩)]
        rfl
      · rw [if_neg h12, decide_eq_false (by omega)]
        rfl
    rw [due]
    obtain ⟨f1, f2, f3⟩ := flags_eq hw at0 wd
    dsimp only
    rw [f1, f2, f3, get_okE, chk_pos (by exact ⟨trivial, fun _ => ⟨rfl, fun _ => rfl⟩⟩), decide_eq_true rfl, if_neg (by exact Bool.false_ne_true), keeps_eq hw, keeps_eq hw, get_okE, chk_pos (by exact ⟨trivial, fun _ => ⟨by rw [LMax_eq]; show _ + 1 ≤ _; omega, trivial⟩⟩), if_neg (by exact Bool.false_ne_true), subF_eq c (k := 7) (by decide) (by decide), get_okE, faultF_ok, get_okE, chk_pos (by exact ⟨trivial, trivial⟩)]
    rfl

theorem all_mk {P : Program} {w : World} {K : PySem.W.Frag} {h : Heap} {mg : Str → Option Value} {fa : Addr} (X : K.In h) (G : h.Ns mainGlobals mg) (hfa : mg "law" = some (.ref fa))
    {f0 : Addr} {od0 an0 : Option Addr} {sl0 : Array (Option Value)} {oc0 kV0 dc0 pm0 cd0 ct0 : Value}
    {C_NoText : Addr}
    {f1 : Addr} {od1 an1 : Option Addr} {sl1 : Array (Option Value)} {oc1 kV1 dc1 pm1 cd1 ct1 : Value}
    {C_TooMany : Addr}
    {f2 : Addr} {od2 an2 : Option Addr} {sl2 : Array (Option Value)} {oc2 kV2 dc2 pm2 cd2 ct2 : Value}
    {C_Twice : Addr}
    {f3 : Addr} {od3 an3 : Option Addr} {sl3 : Array (Option Value)} {oc3 kV3 dc3 pm3 cd3 ct3 : Value}
    {C_Double : Addr}
    {f4 : Addr} {od4 an4 : Option Addr} {sl4 : Array (Option Value)} {oc4 kV4 dc4 pm4 cd4 ct4 : Value}
    {C_Orphan : Addr}
    {f5 : Addr} {od5 an5 : Option Addr} {sl5 : Array (Option Value)} {oc5 kV5 dc5 pm5 cd5 ct5 : Value}
    {C_Clash : Addr}
    {f6 : Addr} {od6 an6 : Option Addr} {sl6 : Array (Option Value)} {oc6 kV6 dc6 pm6 cd6 ct6 : Value}
    {C_NoRow : Addr}
    {f7 : Addr} {od7 an7 : Option Addr} {sl7 : Array (Option Value)} {oc7 kV7 dc7 pm7 cd7 ct7 : Value}
    {C_NoPart : Addr}
    {f8 : Addr} {od8 an8 : Option Addr} {sl8 : Array (Option Value)} {oc8 kV8 dc8 pm8 cd8 ct8 : Value}
    {C_NoDrop : Addr}
    {f9 : Addr} {od9 an9 : Option Addr} {sl9 : Array (Option Value)} {oc9 kV9 dc9 pm9 cd9 ct9 : Value}
    {C_NoName : Addr}
    {f10 : Addr} {od10 an10 : Option Addr} {sl10 : Array (Option Value)} {oc10 kV10 dc10 pm10 cd10 ct10 : Value}
    {C_Fault : Addr}
    {f11 : Addr} {od11 an11 : Option Addr} {sl11 : Array (Option Value)} {oc11 kV11 dc11 pm11 cd11 ct11 : Value}
    {f12 : Addr} {od12 an12 : Option Addr} {sl12 : Array (Option Value)} {oc12 kV12 dc12 pm12 cd12 ct12 : Value}
    {f13 : Addr} {od13 an13 : Option Addr} {sl13 : Array (Option Value)} {oc13 kV13 dc13 pm13 cd13 ct13 : Value}
    {f14 : Addr} {od14 an14 : Option Addr} {sl14 : Array (Option Value)} {oc14 kV14 dc14 pm14 cd14 ct14 : Value}
    {f15 : Addr} {od15 an15 : Option Addr} {sl15 : Array (Option Value)} {oc15 kV15 dc15 pm15 cd15 ct15 : Value}
    {f16 : Addr} {od16 an16 : Option Addr} {sl16 : Array (Option Value)} {oc16 kV16 dc16 pm16 cd16 ct16 : Value}
    {f17 : Addr} {od17 an17 : Option Addr} {sl17 : Array (Option Value)} {oc17 kV17 dc17 pm17 cd17 ct17 : Value}
    {f18 : Addr} {od18 an18 : Option Addr} {sl18 : Array (Option Value)} {oc18 kV18 dc18 pm18 cd18 ct18 : Value}
    {f19 : Addr} {od19 an19 : Option Addr} {sl19 : Array (Option Value)} {oc19 kV19 dc19 pm19 cd19 ct19 : Value}
    {f20 : Addr} {od20 an20 : Option Addr} {sl20 : Array (Option Value)} {oc20 kV20 dc20 pm20 cd20 ct20 : Value}
    {f21 : Addr} {od21 an21 : Option Addr} {sl21 : Array (Option Value)} {oc21 kV21 dc21 pm21 cd21 ct21 : Value}
    {C_HouseError : Addr}
    {C_NoExpr : Addr}
    {C_TooWide : Addr}
    {cdd_Clash : ClassData}
    {cdd_Double : ClassData}
    {cdd_Fault : ClassData}
    {cdd_HouseError : ClassData}
    {cdd_NoDrop : ClassData}
    {cdd_NoExpr : ClassData}
    {cdd_NoName : ClassData}
    {cdd_NoPart : ClassData}
    {cdd_NoRow : ClassData}
    {cdd_NoText : ClassData}
    {cdd_Orphan : ClassData}
    {cdd_TooMany : ClassData}
    {cdd_TooWide : ClassData}
    {cdd_Twice : ClassData}
    {nm_NoText qn_NoText : Str} {N_NoText : Addr} {bs_NoText bm_NoText sb_NoText : List Value} {sn_NoText : List Str} {ab_NoText : Bool} {col_NoText : Option Bool} {dd_NoText : Option Addr} {k0_NoText k1_NoText k2_NoText k3_NoText k5_NoText : Option Value}
    {nm_TooMany qn_TooMany : Str} {N_TooMany : Addr} {bs_TooMany bm_TooMany sb_TooMany : List Value} {sn_TooMany : List Str} {ab_TooMany : Bool} {col_TooMany : Option Bool} {dd_TooMany : Option Addr} {k0_TooMany k1_TooMany k2_TooMany k3_TooMany k5_TooMany : Option Value}
    {nm_Twice qn_Twice : Str} {N_Twice : Addr} {bs_Twice bm_Twice sb_Twice : List Value} {sn_Twice : List Str} {ab_Twice : Bool} {col_Twice : Option Bool} {dd_Twice : Option Addr} {k0_Twice k1_Twice k2_Twice k3_Twice k5_Twice : Option Value}
    {nm_Double qn_Double : Str} {N_Double : Addr} {bs_Double bm_Double sb_Double : List Value} {sn_Double : List Str} {ab_Double : Bool} {col_Double : Option Bool} {dd_Double : Option Addr} {k0_Double k1_Double k2_Double k3_Double k5_Double : Option Value}
    {nm_Orphan qn_Orphan : Str} {N_Orphan : Addr} {bs_Orphan bm_Orphan sb_Orphan : List Value} {sn_Orphan : List Str} {ab_Orphan : Bool} {col_Orphan : Option Bool} {dd_Orphan : Option Addr} {k0_Orphan k1_Orphan k2_Orphan k3_Orphan k5_Orphan : Option Value}
    {nm_Clash qn_Clash : Str} {N_Clash : Addr} {bs_Clash bm_Clash sb_Clash : List Value} {sn_Clash : List Str} {ab_Clash : Bool} {col_Clash : Option Bool} {dd_Clash : Option Addr} {k0_Clash k1_Clash k2_Clash k3_Clash k5_Clash : Option Value}
    {nm_NoRow qn_NoRow : Str} {N_NoRow : Addr} {bs_NoRow bm_NoRow sb_NoRow : List Value} {sn_NoRow : List Str} {ab_NoRow : Bool} {col_NoRow : Option Bool} {dd_NoRow : Option Addr} {k0_NoRow k1_NoRow k2_NoRow k3_NoRow k5_NoRow : Option Value}
    {nm_NoPart qn_NoPart : Str} {N_NoPart : Addr} {bs_NoPart bm_NoPart sb_NoPart : List Value} {sn_NoPart : List Str} {ab_NoPart : Bool} {col_NoPart : Option Bool} {dd_NoPart : Option Addr} {k0_NoPart k1_NoPart k2_NoPart k3_NoPart k5_NoPart : Option Value}
    {nm_NoDrop qn_NoDrop : Str} {N_NoDrop : Addr} {bs_NoDrop bm_NoDrop sb_NoDrop : List Value} {sn_NoDrop : List Str} {ab_NoDrop : Bool} {col_NoDrop : Option Bool} {dd_NoDrop : Option Addr} {k0_NoDrop k1_NoDrop k2_NoDrop k3_NoDrop k5_NoDrop : Option Value}
    {nm_NoName qn_NoName : Str} {N_NoName : Addr} {bs_NoName bm_NoName sb_NoName : List Value} {sn_NoName : List Str} {ab_NoName : Bool} {col_NoName : Option Bool} {dd_NoName : Option Addr} {k0_NoName k1_NoName k2_NoName k3_NoName k5_NoName : Option Value}
    {nm_Fault qn_Fault : Str} {N_Fault : Addr} {bs_Fault bm_Fault sb_Fault : List Value} {sn_Fault : List Str} {ab_Fault : Bool} {col_Fault : Option Bool} {dd_Fault : Option Addr} {k0_Fault k1_Fault k2_Fault k3_Fault k5_Fault : Option Value}
    (qa_NoText : PySem.W.nsIn K mainGlobals "NoText" = some (some (.ref C_NoText)))
    (m0_NoText : PySem.W.findIn K (.ref C_NoText) "__init__" = some (some (.ref f0)))
    (tf0 : PySem.W.typeIn K (.ref f0) = some (.type "function"))
    (l0 : K.lookup f0 = some ⟨oc0, od0, .func (PySem.W.fnOf "__init__" "NoText.__init__" (defArgs s_NoText___init) (defBody s_NoText___init) (defScope s_NoText___init) .none kV0 dc0 pm0 an0 cd0 ct0), sl0⟩)
    (c0 : PySem.W.codeIn K cd0 "NoText.__init__" = true)
    (k0 : PySem.W.keepIn K (.ref f0) = true)
    (qa_TooMany : PySem.W.nsIn K mainGlobals "TooMany" = some (some (.ref C_TooMany)))
    (m1_TooMany : PySem.W.findIn K (.ref C_TooMany) "__init__" = some (some (.ref f1)))
    (tf1 : PySem.W.typeIn K (.ref f1) = some (.type "function"))
    (l1 : K.lookup f1 = some ⟨oc1, od1, .func (PySem.W.fnOf "__init__" "TooMany.__init__" (defArgs s_TooMany___init) (defBody s_TooMany___init) (defScope s_TooMany___init) .none kV1 dc1 pm1 an1 cd1 ct1), sl1⟩)
    (c1 : PySem.W.codeIn K cd1 "TooMany.__init__" = true)
    (k1 : PySem.W.keepIn K (.ref f1) = true)
    (qa_Twice : PySem.W.nsIn K mainGlobals "Twice" = some (some (.ref C_Twice)))
    (m2_Twice : PySem.W.findIn K (.ref C_Twice) "__init__" = some (some (.ref f2)))
    (tf2 : PySem.W.typeIn K (.ref f2) = some (.type "function"))
    (l2 : K.lookup f2 = some ⟨oc2, od2, .func (PySem.W.fnOf "__init__" "Twice.__init__" (defArgs s_Twice___init) (defBody s_Twice___init) (defScope s_Twice___init) .none kV2 dc2 pm2 an2 cd2 ct2), sl2⟩)
    (c2 : PySem.W.codeIn K cd2 "Twice.__init__" = true)
    (k2 : PySem.W.keepIn K (.ref f2) = true)
    (qa_Double : PySem.W.nsIn K mainGlobals "Double" = some (some (.ref C_Double)))
    (m3_Double : PySem.W.findIn K (.ref C_Double) "__init__" = some (some (.ref f3)))
    (tf3 : PySem.W.typeIn K (.ref f3) = some (.type "function"))
    (l3 : K.lookup f3 = some ⟨oc3, od3, .func (PySem.W.fnOf "__init__" "Double.__init__" (defArgs s_Double___init) (defBody s_Double___init) (defScope s_Double___init) .none kV3 dc3 pm3 an3 cd3 ct3), sl3⟩)
    (c3 : PySem.W.codeIn K cd3 "Double.__init__" = true)
    (k3 : PySem.W.keepIn K (.ref f3) = true)
    (qa_Orphan : PySem.W.nsIn K mainGlobals "Orphan" = some (some (.ref C_Orphan)))
    (m4_Orphan : PySem.W.findIn K (.ref C_Orphan) "__init__" = some (some (.ref f4)))
    (tf4 : PySem.W.typeIn K (.ref f4) = some (.type "function"))
    (l4 : K.lookup f4 = some ⟨oc4, od4, .func (PySem.W.fnOf "__init__" "Orphan.__init__" (defArgs s_Orphan___init) (defBody s_Orphan___init) (defScope s_Orphan___init) .none kV4 dc4 pm4 an4 cd4 ct4), sl4⟩)
    (c4 : PySem.W.codeIn K cd4 "Orphan.__init__" = true)
    (k4 : PySem.W.keepIn K (.ref f4) = true)
    (qa_Clash : PySem.W.nsIn K mainGlobals "Clash" = some (some (.ref C_Clash)))
    (m5_Clash : PySem.W.findIn K (.ref C_Clash) "__init__" = some (some (.ref f5)))
    (tf5 : PySem.W.typeIn K (.ref f5) = some (.type "function"))
    (l5 : K.lookup f5 = some ⟨oc5, od5, .func (PySem.W.fnOf "__init__" "Clash.__init__" (defArgs s_Clash___init) (defBody s_Clash___init) (defScope s_Clash___init) .none kV5 dc5 pm5 an5 cd5 ct5), sl5⟩)
    (c5 : PySem.W.codeIn K cd5 "Clash.__init__" = true)
    (k5 : PySem.W.keepIn K (.ref f5) = true)
    (qa_NoRow : PySem.W.nsIn K mainGlobals "NoRow" = some (some (.ref C_NoRow)))
    (m6_NoRow : PySem.W.findIn K (.ref C_NoRow) "__init__" = some (some (.ref f6)))
    (tf6 : PySem.W.typeIn K (.ref f6) = some (.type "function"))
    (l6 : K.lookup f6 = some ⟨oc6, od6, .func (PySem.W.fnOf "__init__" "NoRow.__init__" (defArgs s_NoRow___init) (defBody s_NoRow___init) (defScope s_NoRow___init) .none kV6 dc6 pm6 an6 cd6 ct6), sl6⟩)
    (c6 : PySem.W.codeIn K cd6 "NoRow.__init__" = true)
    (k6 : PySem.W.keepIn K (.ref f6) = true)
    (qa_NoPart : PySem.W.nsIn K mainGlobals "NoPart" = some (some (.ref C_NoPart)))
    (m7_NoPart : PySem.W.findIn K (.ref C_NoPart) "__init__" = some (some (.ref f7)))
    (tf7 : PySem.W.typeIn K (.ref f7) = some (.type "function"))
    (l7 : K.lookup f7 = some ⟨oc7, od7, .func (PySem.W.fnOf "__init__" "NoPart.__init__" (defArgs s_NoPart___init) (defBody s_NoPart___init) (defScope s_NoPart___init) .none kV7 dc7 pm7 an7 cd7 ct7), sl7⟩)
    (c7 : PySem.W.codeIn K cd7 "NoPart.__init__" = true)
    (k7 : PySem.W.keepIn K (.ref f7) = true)
    (qa_NoDrop : PySem.W.nsIn K mainGlobals "NoDrop" = some (some (.ref C_NoDrop)))
    (m8_NoDrop : PySem.W.findIn K (.ref C_NoDrop) "__init__" = some (some (.ref f8)))
    (tf8 : PySem.W.typeIn K (.ref f8) = some (.type "function"))
    (l8 : K.lookup f8 = some ⟨oc8, od8, .func (PySem.W.fnOf "__init__" "NoDrop.__init__" (defArgs s_NoDrop___init) (defBody s_NoDrop___init) (defScope s_NoDrop___init) .none kV8 dc8 pm8 an8 cd8 ct8), sl8⟩)
    (c8 : PySem.W.codeIn K cd8 "NoDrop.__init__" = true)
    (k8 : PySem.W.keepIn K (.ref f8) = true)
    (qa_NoName : PySem.W.nsIn K mainGlobals "NoName" = some (some (.ref C_NoName)))
    (m9_NoName : PySem.W.findIn K (.ref C_NoName) "__init__" = some (some (.ref f9)))
    (tf9 : PySem.W.typeIn K (.ref f9) = some (.type "function"))
    (l9 : K.lookup f9 = some ⟨oc9, od9, .func (PySem.W.fnOf "__init__" "NoName.__init__" (defArgs s_NoName___init) (defBody s_NoName___init) (defScope s_NoName___init) .none kV9 dc9 pm9 an9 cd9 ct9), sl9⟩)
    (c9 : PySem.W.codeIn K cd9 "NoName.__init__" = true)
    (k9 : PySem.W.keepIn K (.ref f9) = true)
    (qa_Fault : PySem.W.nsIn K mainGlobals "Fault" = some (some (.ref C_Fault)))
    (m10_Fault : PySem.W.findIn K (.ref C_Fault) "__init__" = some (some (.ref f10)))
    (tf10 : PySem.W.typeIn K (.ref f10) = some (.type "function"))
    (l10 : K.lookup f10 = some ⟨oc10, od10, .func (PySem.W.fnOf "__init__" "Fault.__init__" (defArgs s_Fault___init) (defBody s_Fault___init) (defScope s_Fault___init) .none kV10 dc10 pm10 an10 cd10 ct10), sl10⟩)
    (c10 : PySem.W.codeIn K cd10 "Fault.__init__" = true)
    (k10 : PySem.W.keepIn K (.ref f10) = true)
    (a11 : PySem.W.nsIn K mainGlobals "_law_cell" = some (some (.ref f11)))
    (l11 : K.lookup f11 = some ⟨oc11, od11, .func (PySem.W.fnOf "_law_cell" "_law_cell" (defArgs s_law_cell) (defBody s_law_cell) (defScope s_law_cell) .none kV11 dc11 pm11 an11 cd11 ct11), sl11⟩)
    (c11 : PySem.W.codeIn K cd11 "_law_cell" = true)
    (k11 : PySem.W.keepIn K (.ref f11) = true)
    (a12 : PySem.W.nsIn K mainGlobals "_law_sub" = some (some (.ref f12)))
    (l12 : K.lookup f12 = some ⟨oc12, od12, .func (PySem.W.fnOf "_law_sub" "_law_sub" (defArgs s_law_sub) (defBody s_law_sub) (defScope s_law_sub) .none kV12 dc12 pm12 an12 cd12 ct12), sl12⟩)
    (c12 : PySem.W.codeIn K cd12 "_law_sub" = true)
    (k12 : PySem.W.keepIn K (.ref f12) = true)
    (a13 : PySem.W.nsIn K mainGlobals "_law_pick" = some (some (.ref f13)))
    (l13 : K.lookup f13 = some ⟨oc13, od13, .func (PySem.W.fnOf "_law_pick" "_law_pick" (defArgs s_law_pick) (defBody s_law_pick) (defScope s_law_pick) .none kV13 dc13 pm13 an13 cd13 ct13), sl13⟩)
    (c13 : PySem.W.codeIn K cd13 "_law_pick" = true)
    (k13 : PySem.W.keepIn K (.ref f13) = true)
    (a14 : PySem.W.nsIn K mainGlobals "_law_number" = some (some (.ref f14)))
    (l14 : K.lookup f14 = some ⟨oc14, od14, .func (PySem.W.fnOf "_law_number" "_law_number" (defArgs s_law_number) (defBody s_law_number) (defScope s_law_number) .none kV14 dc14 pm14 an14 cd14 ct14), sl14⟩)
    (c14 : PySem.W.codeIn K cd14 "_law_number" = true)
    (k14 : PySem.W.keepIn K (.ref f14) = true)
    (a15 : PySem.W.nsIn K mainGlobals "_law_name" = some (some (.ref f15)))
    (l15 : K.lookup f15 = some ⟨oc15, od15, .func (PySem.W.fnOf "_law_name" "_law_name" (defArgs s_law_name) (defBody s_law_name) (defScope s_law_name) .none kV15 dc15 pm15 an15 cd15 ct15), sl15⟩)
    (c15 : PySem.W.codeIn K cd15 "_law_name" = true)
    (k15 : PySem.W.keepIn K (.ref f15) = true)
    (a16 : PySem.W.nsIn K mainGlobals "_law_flags" = some (some (.ref f16)))
    (l16 : K.lookup f16 = some ⟨oc16, od16, .func (PySem.W.fnOf "_law_flags" "_law_flags" (defArgs s_law_flags) (defBody s_law_flags) (defScope s_law_flags) .none kV16 dc16 pm16 an16 cd16 ct16), sl16⟩)
    (c16 : PySem.W.codeIn K cd16 "_law_flags" = true)
    (k16 : PySem.W.keepIn K (.ref f16) = true)
    (a17 : PySem.W.nsIn K mainGlobals "_law_placed" = some (some (.ref f17)))
    (l17 : K.lookup f17 = some ⟨oc17, od17, .func (PySem.W.fnOf "_law_placed" "_law_placed" (defArgs s_law_placed) (defBody s_law_placed) (defScope s_law_placed) .none kV17 dc17 pm17 an17 cd17 ct17), sl17⟩)
    (c17 : PySem.W.codeIn K cd17 "_law_placed" = true)
    (k17 : PySem.W.keepIn K (.ref f17) = true)
    (a18 : PySem.W.nsIn K mainGlobals "_law_worded" = some (some (.ref f18)))
    (l18 : K.lookup f18 = some ⟨oc18, od18, .func (PySem.W.fnOf "_law_worded" "_law_worded" (defArgs s_law_worded) (defBody s_law_worded) (defScope s_law_worded) .none kV18 dc18 pm18 an18 cd18 ct18), sl18⟩)
    (c18 : PySem.W.codeIn K cd18 "_law_worded" = true)
    (k18 : PySem.W.keepIn K (.ref f18) = true)
    (a19 : PySem.W.nsIn K mainGlobals "_law_keeps" = some (some (.ref f19)))
    (l19 : K.lookup f19 = some ⟨oc19, od19, .func (PySem.W.fnOf "_law_keeps" "_law_keeps" (defArgs s_law_keeps) (defBody s_law_keeps) (defScope s_law_keeps) .none kV19 dc19 pm19 an19 cd19 ct19), sl19⟩)
    (c19 : PySem.W.codeIn K cd19 "_law_keeps" = true)
    (k19 : PySem.W.keepIn K (.ref f19) = true)
    (a20 : PySem.W.nsIn K mainGlobals "_law_fault" = some (some (.ref f20)))
    (l20 : K.lookup f20 = some ⟨oc20, od20, .func (PySem.W.fnOf "_law_fault" "_law_fault" (defArgs s_law_fault) (defBody s_law_fault) (defScope s_law_fault) .none kV20 dc20 pm20 an20 cd20 ct20), sl20⟩)
    (c20 : PySem.W.codeIn K cd20 "_law_fault" = true)
    (k20 : PySem.W.keepIn K (.ref f20) = true)
    (a21 : PySem.W.nsIn K mainGlobals "law" = some (some (.ref f21)))
    (l21 : K.lookup f21 = some ⟨oc21, od21, .func (PySem.W.fnOf "law" "law" (defArgs s_law) (defBody s_law) (defScope s_law) .none kV21 dc21 pm21 an21 cd21 ct21), sl21⟩)
    (c21 : PySem.W.codeIn K cd21 "law" = true)
    (k21 : PySem.W.keepIn K (.ref f21) = true)
    (qa_HouseError : PySem.W.nsIn K mainGlobals "HouseError" = some (some (.ref C_HouseError)))
    (xb_HouseError : PySem.W.excIn K C_HouseError [.type "ValueError", .type "Exception", .type "BaseException", .type "object"] "ValueError.__new__" = true)
    (kc_HouseError : PySem.W.keepIn K (.ref C_HouseError) = true)
    (xd_HouseError : PySem.W.subIn K (.ref C_HouseError) (.type "BaseException") = some true)
    (qj_HouseError : PySem.W.typeIn K (.ref C_HouseError) = some (.type "type"))
    (qa_NoExpr : PySem.W.nsIn K mainGlobals "NoExpr" = some (some (.ref C_NoExpr)))
    (xb_NoExpr : PySem.W.excIn K C_NoExpr [.type "ValueError", .type "Exception", .type "BaseException", .type "object"] "ValueError.__new__" = true)
    (kc_NoExpr : PySem.W.keepIn K (.ref C_NoExpr) = true)
    (xd_NoExpr : PySem.W.subIn K (.ref C_NoExpr) (.type "BaseException") = some true)
    (qj_NoExpr : PySem.W.typeIn K (.ref C_NoExpr) = some (.type "type"))
    (qa_TooWide : PySem.W.nsIn K mainGlobals "TooWide" = some (some (.ref C_TooWide)))
    (xb_TooWide : PySem.W.excIn K C_TooWide [.type "ValueError", .type "Exception", .type "BaseException", .type "object"] "ValueError.__new__" = true)
    (kc_TooWide : PySem.W.keepIn K (.ref C_TooWide) = true)
    (xd_TooWide : PySem.W.subIn K (.ref C_TooWide) (.type "BaseException") = some true)
    (qj_TooWide : PySem.W.typeIn K (.ref C_TooWide) = some (.type "type"))
    (rd_HouseError : PySem.W.readsIn K C_HouseError (.type "type") = true)
    (sg_HouseError : PySem.W.specialIn K (.ref C_HouseError) "__getattribute__" = some (some (.builtin "type.__getattribute__")))
    (fc_HouseError : PySem.W.findCls K (.ref C_HouseError) (.type "type") "__init__" = some (.val (.builtin "ValueError.__init__")))
    (ga_NoRow : PySem.W.findIn K (.ref C_NoRow) "__getattribute__" = some (some (.builtin "BaseException.__getattribute__")))
    (qn_NoRow___getattr__ : PySem.W.findIn K (.ref C_NoRow) "__getattr__" = some none)
    (qf_NoRow : PySem.W.findIn K (.ref C_NoRow) "__class__" = some (some (.builtin "object.__class__")))
    (xd_NoRow : PySem.W.subIn K (.ref C_NoRow) (.type "BaseException") = some true)
    (qc_NoRow : PySem.W.hasDictIn K C_NoRow = true)
    (qg : PySem.W.specialIn K (.builtin "object.__class__") "__get__" = some (some (.builtin "getset_descriptor.__get__")))
    (qh : PySem.W.takesIn K (.builtin "object.__class__") = some true)
    (qi_NoRow : PySem.W.mroIn K C_NoRow (.type "object") = some true)
    (qz_NoRow_Clash : (Value.ref C_NoRow == Value.ref C_Clash) = false)
    (qk_Clash : PySem.W.clsIn K C_Clash = some cdd_Clash)
    (qj_Clash : PySem.W.typeIn K (.ref C_Clash) = some (.type "type"))
    (qs_NoRow_Clash : PySem.W.subIn K (.ref C_NoRow) (.ref C_Clash) = some false)
    (ga_TooWide : PySem.W.findIn K (.ref C_TooWide) "__getattribute__" = some (some (.builtin "BaseException.__getattribute__")))
    (qn_TooWide___getattr__ : PySem.W.findIn K (.ref C_TooWide) "__getattr__" = some none)
    (qf_TooWide : PySem.W.findIn K (.ref C_TooWide) "__class__" = some (some (.builtin "object.__class__")))
    (qc_TooWide : PySem.W.hasDictIn K C_TooWide = true)
    (qi_TooWide : PySem.W.mroIn K C_TooWide (.type "object") = some true)
    (qz_TooWide_Clash : (Value.ref C_TooWide == Value.ref C_Clash) = false)
    (qs_TooWide_Clash : PySem.W.subIn K (.ref C_TooWide) (.ref C_Clash) = some false)
    (ga_Fault : PySem.W.findIn K (.ref C_Fault) "__getattribute__" = some (some (.builtin "BaseException.__getattribute__")))
    (qn_Fault___getattr__ : PySem.W.findIn K (.ref C_Fault) "__getattr__" = some none)
    (qf_Fault : PySem.W.findIn K (.ref C_Fault) "__class__" = some (some (.builtin "object.__class__")))
    (xd_Fault : PySem.W.subIn K (.ref C_Fault) (.type "BaseException") = some true)
    (qc_Fault : PySem.W.hasDictIn K C_Fault = true)
    (qi_Fault : PySem.W.mroIn K C_Fault (.type "object") = some true)
    (qz_Fault_Clash : (Value.ref C_Fault == Value.ref C_Clash) = false)
    (qs_Fault_Clash : PySem.W.subIn K (.ref C_Fault) (.ref C_Clash) = some false)
    (ga_NoDrop : PySem.W.findIn K (.ref C_NoDrop) "__getattribute__" = some (some (.builtin "BaseException.__getattribute__")))
    (qn_NoDrop___getattr__ : PySem.W.findIn K (.ref C_NoDrop) "__getattr__" = some none)
    (qf_NoDrop : PySem.W.findIn K (.ref C_NoDrop) "__class__" = some (some (.builtin "object.__class__")))
    (xd_NoDrop : PySem.W.subIn K (.ref C_NoDrop) (.type "BaseException") = some true)
    (qc_NoDrop : PySem.W.hasDictIn K C_NoDrop = true)
    (qi_NoDrop : PySem.W.mroIn K C_NoDrop (.type "object") = some true)
    (qz_NoDrop_Clash : (Value.ref C_NoDrop == Value.ref C_Clash) = false)
    (qs_NoDrop_Clash : PySem.W.subIn K (.ref C_NoDrop) (.ref C_Clash) = some false)
    (ga_NoName : PySem.W.findIn K (.ref C_NoName) "__getattribute__" = some (some (.builtin "BaseException.__getattribute__")))
    (qn_NoName___getattr__ : PySem.W.findIn K (.ref C_NoName) "__getattr__" = some none)
    (qf_NoName : PySem.W.findIn K (.ref C_NoName) "__class__" = some (some (.builtin "object.__class__")))
    (xd_NoName : PySem.W.subIn K (.ref C_NoName) (.type "BaseException") = some true)
    (qc_NoName : PySem.W.hasDictIn K C_NoName = true)
    (qi_NoName : PySem.W.mroIn K C_NoName (.type "object") = some true)
    (qz_NoName_Clash : (Value.ref C_NoName == Value.ref C_Clash) = false)
    (qs_NoName_Clash : PySem.W.subIn K (.ref C_NoName) (.ref C_Clash) = some false)
    (ga_NoPart : PySem.W.findIn K (.ref C_NoPart) "__getattribute__" = some (some (.builtin "BaseException.__getattribute__")))
    (qn_NoPart___getattr__ : PySem.W.findIn K (.ref C_NoPart) "__getattr__" = some none)
    (qf_NoPart : PySem.W.findIn K (.ref C_NoPart) "__class__" = some (some (.builtin "object.__class__")))
    (xd_NoPart : PySem.W.subIn K (.ref C_NoPart) (.type "BaseException") = some true)
    (qc_NoPart : PySem.W.hasDictIn K C_NoPart = true)
    (qi_NoPart : PySem.W.mroIn K C_NoPart (.type "object") = some true)
    (qz_NoPart_Clash : (Value.ref C_NoPart == Value.ref C_Clash) = false)
    (qs_NoPart_Clash : PySem.W.subIn K (.ref C_NoPart) (.ref C_Clash) = some false)
    (ga_Clash : PySem.W.findIn K (.ref C_Clash) "__getattribute__" = some (some (.builtin "BaseException.__getattribute__")))
    (qn_Clash___getattr__ : PySem.W.findIn K (.ref C_Clash) "__getattr__" = some none)
    (qf_Clash : PySem.W.findIn K (.ref C_Clash) "__class__" = some (some (.builtin "object.__class__")))
    (xd_Clash : PySem.W.subIn K (.ref C_Clash) (.type "BaseException") = some true)
    (qc_Clash : PySem.W.hasDictIn K C_Clash = true)
    (qi_Clash : PySem.W.mroIn K C_Clash (.type "object") = some true)
    (qs_Clash_Clash : PySem.W.subIn K (.ref C_Clash) (.ref C_Clash) = some true)
    (ga_Orphan : PySem.W.findIn K (.ref C_Orphan) "__getattribute__" = some (some (.builtin "BaseException.__getattribute__")))
    (qn_Orphan___getattr__ : PySem.W.findIn K (.ref C_Orphan) "__getattr__" = some none)
    (qf_Orphan : PySem.W.findIn K (.ref C_Orphan) "__class__" = some (some (.builtin "object.__class__")))
    (xd_Orphan : PySem.W.subIn K (.ref C_Orphan) (.type "BaseException") = some true)
    (qc_Orphan : PySem.W.hasDictIn K C_Orphan = true)
    (qi_Orphan : PySem.W.mroIn K C_Orphan (.type "object") = some true)
    (qz_Orphan_Clash : (Value.ref C_Orphan == Value.ref C_Clash) = false)
    (qs_Orphan_Clash : PySem.W.subIn K (.ref C_Orphan) (.ref C_Clash) = some false)
    (ga_Double : PySem.W.findIn K (.ref C_Double) "__getattribute__" = some (some (.builtin "BaseException.__getattribute__")))
    (qn_Double___getattr__ : PySem.W.findIn K (.ref C_Double) "__getattr__" = some none)
    (qf_Double : PySem.W.findIn K (.ref C_Double) "__class__" = some (some (.builtin "object.__class__")))
    (xd_Double : PySem.W.subIn K (.ref C_Double) (.type "BaseException") = some true)
    (qc_Double : PySem.W.hasDictIn K C_Double = true)
    (qi_Double : PySem.W.mroIn K C_Double (.type "object") = some true)
    (qz_Double_Clash : (Value.ref C_Double == Value.ref C_Clash) = false)
    (qs_Double_Clash : PySem.W.subIn K (.ref C_Double) (.ref C_Clash) = some false)
    (ga_Twice : PySem.W.findIn K (.ref C_Twice) "__getattribute__" = some (some (.builtin "BaseException.__getattribute__")))
    (qn_Twice___getattr__ : PySem.W.findIn K (.ref C_Twice) "__getattr__" = some none)
    (qf_Twice : PySem.W.findIn K (.ref C_Twice) "__class__" = some (some (.builtin "object.__class__")))
    (xd_Twice : PySem.W.subIn K (.ref C_Twice) (.type "BaseException") = some true)
    (qc_Twice : PySem.W.hasDictIn K C_Twice = true)
    (qi_Twice : PySem.W.mroIn K C_Twice (.type "object") = some true)
    (qz_Twice_Clash : (Value.ref C_Twice == Value.ref C_Clash) = false)
    (qs_Twice_Clash : PySem.W.subIn K (.ref C_Twice) (.ref C_Clash) = some false)
    (ga_TooMany : PySem.W.findIn K (.ref C_TooMany) "__getattribute__" = some (some (.builtin "BaseException.__getattribute__")))
    (qn_TooMany___getattr__ : PySem.W.findIn K (.ref C_TooMany) "__getattr__" = some none)
    (qf_TooMany : PySem.W.findIn K (.ref C_TooMany) "__class__" = some (some (.builtin "object.__class__")))
    (xd_TooMany : PySem.W.subIn K (.ref C_TooMany) (.type "BaseException") = some true)
    (qc_TooMany : PySem.W.hasDictIn K C_TooMany = true)
    (qi_TooMany : PySem.W.mroIn K C_TooMany (.type "object") = some true)
    (qz_TooMany_Clash : (Value.ref C_TooMany == Value.ref C_Clash) = false)
    (qs_TooMany_Clash : PySem.W.subIn K (.ref C_TooMany) (.ref C_Clash) = some false)
    (ga_NoText : PySem.W.findIn K (.ref C_NoText) "__getattribute__" = some (some (.builtin "BaseException.__getattribute__")))
    (qn_NoText___getattr__ : PySem.W.findIn K (.ref C_NoText) "__getattr__" = some none)
    (qf_NoText : PySem.W.findIn K (.ref C_NoText) "__class__" = some (some (.builtin "object.__class__")))
    (xd_NoText : PySem.W.subIn K (.ref C_NoText) (.type "BaseException") = some true)
    (qc_NoText : PySem.W.hasDictIn K C_NoText = true)
    (qi_NoText : PySem.W.mroIn K C_NoText (.type "object") = some true)
    (qz_NoText_Clash : (Value.ref C_NoText == Value.ref C_Clash) = false)
    (qs_NoText_Clash : PySem.W.subIn K (.ref C_NoText) (.ref C_Clash) = some false)
    (ga_NoExpr : PySem.W.findIn K (.ref C_NoExpr) "__getattribute__" = some (some (.builtin "BaseException.__getattribute__")))
    (qn_NoExpr___getattr__ : PySem.W.findIn K (.ref C_NoExpr) "__getattr__" = some none)
    (qf_NoExpr : PySem.W.findIn K (.ref C_NoExpr) "__class__" = some (some (.builtin "object.__class__")))
    (qc_NoExpr : PySem.W.hasDictIn K C_NoExpr = true)
    (qi_NoExpr : PySem.W.mroIn K C_NoExpr (.type "object") = some true)
    (qz_NoExpr_Clash : (Value.ref C_NoExpr == Value.ref C_Clash) = false)
    (qs_NoExpr_Clash : PySem.W.subIn K (.ref C_NoExpr) (.ref C_Clash) = some false)
    (ga_HouseError : PySem.W.findIn K (.ref C_HouseError) "__getattribute__" = some (some (.builtin "BaseException.__getattribute__")))
    (qn_HouseError___getattr__ : PySem.W.findIn K (.ref C_HouseError) "__getattr__" = some none)
    (qf_HouseError : PySem.W.findIn K (.ref C_HouseError) "__class__" = some (some (.builtin "object.__class__")))
    (qc_HouseError : PySem.W.hasDictIn K C_HouseError = true)
    (qi_HouseError : PySem.W.mroIn K C_HouseError (.type "object") = some true)
    (qz_HouseError_Clash : (Value.ref C_HouseError == Value.ref C_Clash) = false)
    (qs_HouseError_Clash : PySem.W.subIn K (.ref C_HouseError) (.ref C_Clash) = some false)
    (qz_NoRow_Double : (Value.ref C_NoRow == Value.ref C_Double) = false)
    (qk_Double : PySem.W.clsIn K C_Double = some cdd_Double)
    (qj_Double : PySem.W.typeIn K (.ref C_Double) = some (.type "type"))
    (qs_NoRow_Double : PySem.W.subIn K (.ref C_NoRow) (.ref C_Double) = some false)
    (qz_TooWide_Double : (Value.ref C_TooWide == Value.ref C_Double) = false)
    (qs_TooWide_Double : PySem.W.subIn K (.ref C_TooWide) (.ref C_Double) = some false)
    (qz_Fault_Double : (Value.ref C_Fault == Value.ref C_Double) = false)
    (qs_Fault_Double : PySem.W.subIn K (.ref C_Fault) (.ref C_Double) = some false)
    (qz_NoDrop_Double : (Value.ref C_NoDrop == Value.ref C_Double) = false)
    (qs_NoDrop_Double : PySem.W.subIn K (.ref C_NoDrop) (.ref C_Double) = some false)
    (qz_NoName_Double : (Value.ref C_NoName == Value.ref C_Double) = false)
    (qs_NoName_Double : PySem.W.subIn K (.ref C_NoName) (.ref C_Double) = some false)
    (qz_NoPart_Double : (Value.ref C_NoPart == Value.ref C_Double) = false)
    (qs_NoPart_Double : PySem.W.subIn K (.ref C_NoPart) (.ref C_Double) = some false)
    (qz_Clash_Double : (Value.ref C_Clash == Value.ref C_Double) = false)
    (qs_Clash_Double : PySem.W.subIn K (.ref C_Clash) (.ref C_Double) = some false)
    (qz_Orphan_Double : (Value.ref C_Orphan == Value.ref C_Double) = false)
    (qs_Orphan_Double : PySem.W.subIn K (.ref C_Orphan) (.ref C_Double) = some false)
    (qs_Double_Double : PySem.W.subIn K (.ref C_Double) (.ref C_Double) = some true)
    (qz_Twice_Double : (Value.ref C_Twice == Value.ref C_Double) = false)
    (qs_Twice_Double : PySem.W.subIn K (.ref C_Twice) (.ref C_Double) = some false)
    (qz_TooMany_Double : (Value.ref C_TooMany == Value.ref C_Double) = false)
    (qs_TooMany_Double : PySem.W.subIn K (.ref C_TooMany) (.ref C_Double) = some false)
    (qz_NoText_Double : (Value.ref C_NoText == Value.ref C_Double) = false)
    (qs_NoText_Double : PySem.W.subIn K (.ref C_NoText) (.ref C_Double) = some false)
    (qz_NoExpr_Double : (Value.ref C_NoExpr == Value.ref C_Double) = false)
    (qs_NoExpr_Double : PySem.W.subIn K (.ref C_NoExpr) (.ref C_Double) = some false)
    (qz_HouseError_Double : (Value.ref C_HouseError == Value.ref C_Double) = false)
    (qs_HouseError_Double : PySem.W.subIn K (.ref C_HouseError) (.ref C_Double) = some false)
    (qz_NoRow_Fault : (Value.ref C_NoRow == Value.ref C_Fault) = false)
    (qk_Fault : PySem.W.clsIn K C_Fault = some cdd_Fault)
    (qj_Fault : PySem.W.typeIn K (.ref C_Fault) = some (.type "type"))
    (qs_NoRow_Fault : PySem.W.subIn K (.ref C_NoRow) (.ref C_Fault) = some false)
    (qz_TooWide_Fault : (Value.ref C_TooWide == Value.ref C_Fault) = false)
    (qs_TooWide_Fault : PySem.W.subIn K (.ref C_TooWide) (.ref C_Fault) = some false)
    (qs_Fault_Fault : PySem.W.subIn K (.ref C_Fault) (.ref C_Fault) = some true)
    (qz_NoDrop_Fault : (Value.ref C_NoDrop == Value.ref C_Fault) = false)
    (qs_NoDrop_Fault : PySem.W.subIn K (.ref C_NoDrop) (.ref C_Fault) = some false)
    (qz_NoName_Fault : (Value.ref C_NoName == Value.ref C_Fault) = false)
    (qs_NoName_Fault : PySem.W.subIn K (.ref C_NoName) (.ref C_Fault) = some false)
    (qz_NoPart_Fault : (Value.ref C_NoPart == Value.ref C_Fault) = false)
    (qs_NoPart_Fault : PySem.W.subIn K (.ref C_NoPart) (.ref C_Fault) = some false)
    (qz_Clash_Fault : (Value.ref C_Clash == Value.ref C_Fault) = false)
    (qs_Clash_Fault : PySem.W.subIn K (.ref C_Clash) (.ref C_Fault) = some false)
    (qz_Orphan_Fault : (Value.ref C_Orphan == Value.ref C_Fault) = false)
    (qs_Orphan_Fault : PySem.W.subIn K (.ref C_Orphan) (.ref C_Fault) = some false)
    (qz_Double_Fault : (Value.ref C_Double == Value.ref C_Fault) = false)
    (qs_Double_Fault : PySem.W.subIn K (.ref C_Double) (.ref C_Fault) = some false)
    (qz_Twice_Fault : (Value.ref C_Twice == Value.ref C_Fault) = false)
    (qs_Twice_Fault : PySem.W.subIn K (.ref C_Twice) (.ref C_Fault) = some false)
    (qz_TooMany_Fault : (Value.ref C_TooMany == Value.ref C_Fault) = false)
    (qs_TooMany_Fault : PySem.W.subIn K (.ref C_TooMany) (.ref C_Fault) = some false)
    (qz_NoText_Fault : (Value.ref C_NoText == Value.ref C_Fault) = false)
    (qs_NoText_Fault : PySem.W.subIn K (.ref C_NoText) (.ref C_Fault) = some false)
    (qz_NoExpr_Fault : (Value.ref C_NoExpr == Value.ref C_Fault) = false)
    (qs_NoExpr_Fault : PySem.W.subIn K (.ref C_NoExpr) (.ref C_Fault) = some false)
    (qz_HouseError_Fault : (Value.ref C_HouseError == Value.ref C_Fault) = false)
    (qs_HouseError_Fault : PySem.W.subIn K (.ref C_HouseError) (.ref C_Fault) = some false)
    (qk_HouseError : PySem.W.clsIn K C_HouseError = some cdd_HouseError)
    (qs_NoRow_HouseError : PySem.W.subIn K (.ref C_NoRow) (.ref C_HouseError) = some true)
    (qs_TooWide_HouseError : PySem.W.subIn K (.ref C_TooWide) (.ref C_HouseError) = some true)
    (qs_Fault_HouseError : PySem.W.subIn K (.ref C_Fault) (.ref C_HouseError) = some true)
    (qs_NoDrop_HouseError : PySem.W.subIn K (.ref C_NoDrop) (.ref C_HouseError) = some true)
    (qs_NoName_HouseError : PySem.W.subIn K (.ref C_NoName) (.ref C_HouseError) = some true)
    (qs_NoPart_HouseError : PySem.W.subIn K (.ref C_NoPart) (.ref C_HouseError) = some true)
    (qs_Clash_HouseError : PySem.W.subIn K (.ref C_Clash) (.ref C_HouseError) = some true)
    (qs_Orphan_HouseError : PySem.W.subIn K (.ref C_Orphan) (.ref C_HouseError) = some true)
    (qs_Double_HouseError : PySem.W.subIn K (.ref C_Double) (.ref C_HouseError) = some true)
    (qs_Twice_HouseError : PySem.W.subIn K (.ref C_Twice) (.ref C_HouseError) = some true)
    (qs_TooMany_HouseError : PySem.W.subIn K (.ref C_TooMany) (.ref C_HouseError) = some true)
    (qs_NoText_HouseError : PySem.W.subIn K (.ref C_NoText) (.ref C_HouseError) = some true)
    (qs_NoExpr_HouseError : PySem.W.subIn K (.ref C_NoExpr) (.ref C_HouseError) = some true)
    (qs_HouseError_HouseError : PySem.W.subIn K (.ref C_HouseError) (.ref C_HouseError) = some true)
    (qz_NoRow_NoDrop : (Value.ref C_NoRow == Value.ref C_NoDrop) = false)
    (qk_NoDrop : PySem.W.clsIn K C_NoDrop = some cdd_NoDrop)
    (qj_NoDrop : PySem.W.typeIn K (.ref C_NoDrop) = some (.type "type"))
    (qs_NoRow_NoDrop : PySem.W.subIn K (.ref C_NoRow) (.ref C_NoDrop) = some false)
    (qz_TooWide_NoDrop : (Value.ref C_TooWide == Value.ref C_NoDrop) = false)
    (qs_TooWide_NoDrop : PySem.W.subIn K (.ref C_TooWide) (.ref C_NoDrop) = some false)
    (qz_Fault_NoDrop : (Value.ref C_Fault == Value.ref C_NoDrop) = false)
    (qs_Fault_NoDrop : PySem.W.subIn K (.ref C_Fault) (.ref C_NoDrop) = some false)
    (qs_NoDrop_NoDrop : PySem.W.subIn K (.ref C_NoDrop) (.ref C_NoDrop) = some true)
    (qz_NoName_NoDrop : (Value.ref C_NoName == Value.ref C_NoDrop) = false)
    (qs_NoName_NoDrop : PySem.W.subIn K (.ref C_NoName) (.ref C_NoDrop) = some false)
    (qz_NoPart_NoDrop : (Value.ref C_NoPart == Value.ref C_NoDrop) = false)
    (qs_NoPart_NoDrop : PySem.W.subIn K (.ref C_NoPart) (.ref C_NoDrop) = some false)
    (qz_Clash_NoDrop : (Value.ref C_Clash == Value.ref C_NoDrop) = false)
    (qs_Clash_NoDrop : PySem.W.subIn K (.ref C_Clash) (.ref C_NoDrop) = some false)
    (qz_Orphan_NoDrop : (Value.ref C_Orphan == Value.ref C_NoDrop) = false)
    (qs_Orphan_NoDrop : PySem.W.subIn K (.ref C_Orphan) (.ref C_NoDrop) = some false)
    (qz_Double_NoDrop : (Value.ref C_Double == Value.ref C_NoDrop) = false)
    (qs_Double_NoDrop : PySem.W.subIn K (.ref C_Double) (.ref C_NoDrop) = some false)
    (qz_Twice_NoDrop : (Value.ref C_Twice == Value.ref C_NoDrop) = false)
    (qs_Twice_NoDrop : PySem.W.subIn K (.ref C_Twice) (.ref C_NoDrop) = some false)
    (qz_TooMany_NoDrop : (Value.ref C_TooMany == Value.ref C_NoDrop) = false)
    (qs_TooMany_NoDrop : PySem.W.subIn K (.ref C_TooMany) (.ref C_NoDrop) = some false)
    (qz_NoText_NoDrop : (Value.ref C_NoText == Value.ref C_NoDrop) = false)
    (qs_NoText_NoDrop : PySem.W.subIn K (.ref C_NoText) (.ref C_NoDrop) = some false)
    (qz_NoExpr_NoDrop : (Value.ref C_NoExpr == Value.ref C_NoDrop) = false)
    (qs_NoExpr_NoDrop : PySem.W.subIn K (.ref C_NoExpr) (.ref C_NoDrop) = some false)
    (qz_HouseError_NoDrop : (Value.ref C_HouseError == Value.ref C_NoDrop) = false)
    (qs_HouseError_NoDrop : PySem.W.subIn K (.ref C_HouseError) (.ref C_NoDrop) = some false)
    (qz_NoRow_NoExpr : (Value.ref C_NoRow == Value.ref C_NoExpr) = false)
    (qk_NoExpr : PySem.W.clsIn K C_NoExpr = some cdd_NoExpr)
    (qs_NoRow_NoExpr : PySem.W.subIn K (.ref C_NoRow) (.ref C_NoExpr) = some false)
    (qz_TooWide_NoExpr : (Value.ref C_TooWide == Value.ref C_NoExpr) = false)
    (qs_TooWide_NoExpr : PySem.W.subIn K (.ref C_TooWide) (.ref C_NoExpr) = some false)
    (qz_Fault_NoExpr : (Value.ref C_Fault == Value.ref C_NoExpr) = false)
    (qs_Fault_NoExpr : PySem.W.subIn K (.ref C_Fault) (.ref C_NoExpr) = some false)
    (qz_NoDrop_NoExpr : (Value.ref C_NoDrop == Value.ref C_NoExpr) = false)
    (qs_NoDrop_NoExpr : PySem.W.subIn K (.ref C_NoDrop) (.ref C_NoExpr) = some false)
    (qz_NoName_NoExpr : (Value.ref C_NoName == Value.ref C_NoExpr) = false)
    (qs_NoName_NoExpr : PySem.W.subIn K (.ref C_NoName) (.ref C_NoExpr) = some false)
    (qz_NoPart_NoExpr : (Value.ref C_NoPart == Value.ref C_NoExpr) = false)
    (qs_NoPart_NoExpr : PySem.W.subIn K (.ref C_NoPart) (.ref C_NoExpr) = some false)
    (qz_Clash_NoExpr : (Value.ref C_Clash == Value.ref C_NoExpr) = false)
    (qs_Clash_NoExpr : PySem.W.subIn K (.ref C_Clash) (.ref C_NoExpr) = some false)
    (qz_Orphan_NoExpr : (Value.ref C_Orphan == Value.ref C_NoExpr) = false)
    (qs_Orphan_NoExpr : PySem.W.subIn K (.ref C_Orphan) (.ref C_NoExpr) = some false)
    (qz_Double_NoExpr : (Value.ref C_Double == Value.ref C_NoExpr) = false)
    (qs_Double_NoExpr : PySem.W.subIn K (.ref C_Double) (.ref C_NoExpr) = some false)
    (qz_Twice_NoExpr : (Value.ref C_Twice == Value.ref C_NoExpr) = false)
    (qs_Twice_NoExpr : PySem.W.subIn K (.ref C_Twice) (.ref C_NoExpr) = some false)
    (qz_TooMany_NoExpr : (Value.ref C_TooMany == Value.ref C_NoExpr) = false)
    (qs_TooMany_NoExpr : PySem.W.subIn K (.ref C_TooMany) (.ref C_NoExpr) = some false)
    (qz_NoText_NoExpr : (Value.ref C_NoText == Value.ref C_NoExpr) = false)
    (qs_NoText_NoExpr : PySem.W.subIn K (.ref C_NoText) (.ref C_NoExpr) = some false)
    (qs_NoExpr_NoExpr : PySem.W.subIn K (.ref C_NoExpr) (.ref C_NoExpr) = some true)
    (qz_HouseError_NoExpr : (Value.ref C_HouseError == Value.ref C_NoExpr) = false)
    (qs_HouseError_NoExpr : PySem.W.subIn K (.ref C_HouseError) (.ref C_NoExpr) = some false)
    (qz_NoRow_NoName : (Value.ref C_NoRow == Value.ref C_NoName) = false)
    (qk_NoName : PySem.W.clsIn K C_NoName = some cdd_NoName)
    (qj_NoName : PySem.W.typeIn K (.ref C_NoName) = some (.type "type"))
    (qs_NoRow_NoName : PySem.W.subIn K (.ref C_NoRow) (.ref C_NoName) = some false)
    (qz_TooWide_NoName : (Value.ref C_TooWide == Value.ref C_NoName) = false)
    (qs_TooWide_NoName : PySem.W.subIn K (.ref C_TooWide) (.ref C_NoName) = some false)
    (qz_Fault_NoName : (Value.ref C_Fault == Value.ref C_NoName) = false)
    (qs_Fault_NoName : PySem.W.subIn K (.ref C_Fault) (.ref C_NoName) = some false)
    (qz_NoDrop_NoName : (Value.ref C_NoDrop == Value.ref C_NoName) = false)
    (qs_NoDrop_NoName : PySem.W.subIn K (.ref C_NoDrop) (.ref C_NoName) = some false)
    (qs_NoName_NoName : PySem.W.subIn K (.ref C_NoName) (.ref C_NoName) = some true)
    (qz_NoPart_NoName : (Value.ref C_NoPart == Value.ref C_NoName) = false)
    (qs_NoPart_NoName : PySem.W.subIn K (.ref C_NoPart) (.ref C_NoName) = some false)
    (qz_Clash_NoName : (Value.ref C_Clash == Value.ref C_NoName) = false)
    (qs_Clash_NoName : PySem.W.subIn K (.ref C_Clash) (.ref C_NoName) = some false)
    (qz_Orphan_NoName : (Value.ref C_Orphan == Value.ref C_NoName) = false)
    (qs_Orphan_NoName : PySem.W.subIn K (.ref C_Orphan) (.ref C_NoName) = some false)
    (qz_Double_NoName : (Value.ref C_Double == Value.ref C_NoName) = false)
    (qs_Double_NoName : PySem.W.subIn K (.ref C_Double) (.ref C_NoName) = some false)
    (qz_Twice_NoName : (Value.ref C_Twice == Value.ref C_NoName) = false)
    (qs_Twice_NoName : PySem.W.subIn K (.ref C_Twice) (.ref C_NoName) = some false)
    (qz_TooMany_NoName : (Value.ref C_TooMany == Value.ref C_NoName) = false)
    (qs_TooMany_NoName : PySem.W.subIn K (.ref C_TooMany) (.ref C_NoName) = some false)
    (qz_NoText_NoName : (Value.ref C_NoText == Value.ref C_NoName) = false)
    (qs_NoText_NoName : PySem.W.subIn K (.ref C_NoText) (.ref C_NoName) = some false)
    (qz_NoExpr_NoName : (Value.ref C_NoExpr == Value.ref C_NoName) = false)
    (qs_NoExpr_NoName : PySem.W.subIn K (.ref C_NoExpr) (.ref C_NoName) = some false)
    (qz_HouseError_NoName : (Value.ref C_HouseError == Value.ref C_NoName) = false)
    (qs_HouseError_NoName : PySem.W.subIn K (.ref C_HouseError) (.ref C_NoName) = some false)
    (qz_NoRow_NoPart : (Value.ref C_NoRow == Value.ref C_NoPart) = false)
    (qk_NoPart : PySem.W.clsIn K C_NoPart = some cdd_NoPart)
    (qj_NoPart : PySem.W.typeIn K (.ref C_NoPart) = some (.type "type"))
    (qs_NoRow_NoPart : PySem.W.subIn K (.ref C_NoRow) (.ref C_NoPart) = some false)
    (qz_TooWide_NoPart : (Value.ref C_TooWide == Value.ref C_NoPart) = false)
    (qs_TooWide_NoPart : PySem.W.subIn K (.ref C_TooWide) (.ref C_NoPart) = some false)
    (qz_Fault_NoPart : (Value.ref C_Fault == Value.ref C_NoPart) = false)
    (qs_Fault_NoPart : PySem.W.subIn K (.ref C_Fault) (.ref C_NoPart) = some false)
    (qz_NoDrop_NoPart : (Value.ref C_NoDrop == Value.ref C_NoPart) = false)
    (qs_NoDrop_NoPart : PySem.W.subIn K (.ref C_NoDrop) (.ref C_NoPart) = some false)
    (qz_NoName_NoPart : (Value.ref C_NoName == Value.ref C_NoPart) = false)
    (qs_NoName_NoPart : PySem.W.subIn K (.ref C_NoName) (.ref C_NoPart) = some false)
    (qs_NoPart_NoPart : PySem.W.subIn K (.ref C_NoPart) (.ref C_NoPart) = some true)
    (qz_Clash_NoPart : (Value.ref C_Clash == Value.ref C_NoPart) = false)
    (qs_Clash_NoPart : PySem.W.subIn K (.ref C_Clash) (.ref C_NoPart) = some false)
    (qz_Orphan_NoPart : (Value.ref C_Orphan == Value.ref C_NoPart) = false)
    (qs_Orphan_NoPart : PySem.W.subIn K (.ref C_Orphan) (.ref C_NoPart) = some false)
    (qz_Double_NoPart : (Value.ref C_Double == Value.ref C_NoPart) = false)
    (qs_Double_NoPart : PySem.W.subIn K (.ref C_Double) (.ref C_NoPart) = some false)
    (qz_Twice_NoPart : (Value.ref C_Twice == Value.ref C_NoPart) = false)
    (qs_Twice_NoPart : PySem.W.subIn K (.ref C_Twice) (.ref C_NoPart) = some false)
    (qz_TooMany_NoPart : (Value.ref C_TooMany == Value.ref C_NoPart) = false)
    (qs_TooMany_NoPart : PySem.W.subIn K (.ref C_TooMany) (.ref C_NoPart) = some false)
    (qz_NoText_NoPart : (Value.ref C_NoText == Value.ref C_NoPart) = false)
    (qs_NoText_NoPart : PySem.W.subIn K (.ref C_NoText) (.ref C_NoPart) = some false)
    (qz_NoExpr_NoPart : (Value.ref C_NoExpr == Value.ref C_NoPart) = false)
    (qs_NoExpr_NoPart : PySem.W.subIn K (.ref C_NoExpr) (.ref C_NoPart) = some false)
    (qz_HouseError_NoPart : (Value.ref C_HouseError == Value.ref C_NoPart) = false)
    (qs_HouseError_NoPart : PySem.W.subIn K (.ref C_HouseError) (.ref C_NoPart) = some false)
    (qk_NoRow : PySem.W.clsIn K C_NoRow = some cdd_NoRow)
    (qj_NoRow : PySem.W.typeIn K (.ref C_NoRow) = some (.type "type"))
    (qs_NoRow_NoRow : PySem.W.subIn K (.ref C_NoRow) (.ref C_NoRow) = some true)
    (qz_TooWide_NoRow : (Value.ref C_TooWide == Value.ref C_NoRow) = false)
    (qs_TooWide_NoRow : PySem.W.subIn K (.ref C_TooWide) (.ref C_NoRow) = some false)
    (qz_Fault_NoRow : (Value.ref C_Fault == Value.ref C_NoRow) = false)
    (qs_Fault_NoRow : PySem.W.subIn K (.ref C_Fault) (.ref C_NoRow) = some false)
    (qz_NoDrop_NoRow : (Value.ref C_NoDrop == Value.ref C_NoRow) = false)
    (qs_NoDrop_NoRow : PySem.W.subIn K (.ref C_NoDrop) (.ref C_NoRow) = some false)
    (qz_NoName_NoRow : (Value.ref C_NoName == Value.ref C_NoRow) = false)
    (qs_NoName_NoRow : PySem.W.subIn K (.ref C_NoName) (.ref C_NoRow) = some false)
    (qz_NoPart_NoRow : (Value.ref C_NoPart == Value.ref C_NoRow) = false)
    (qs_NoPart_NoRow : PySem.W.subIn K (.ref C_NoPart) (.ref C_NoRow) = some false)
    (qz_Clash_NoRow : (Value.ref C_Clash == Value.ref C_NoRow) = false)
    (qs_Clash_NoRow : PySem.W.subIn K (.ref C_Clash) (.ref C_NoRow) = some false)
    (qz_Orphan_NoRow : (Value.ref C_Orphan == Value.ref C_NoRow) = false)
    (qs_Orphan_NoRow : PySem.W.subIn K (.ref C_Orphan) (.ref C_NoRow) = some false)
    (qz_Double_NoRow : (Value.ref C_Double == Value.ref C_NoRow) = false)
    (qs_Double_NoRow : PySem.W.subIn K (.ref C_Double) (.ref C_NoRow) = some false)
    (qz_Twice_NoRow : (Value.ref C_Twice == Value.ref C_NoRow) = false)
    (qs_Twice_NoRow : PySem.W.subIn K (.ref C_Twice) (.ref C_NoRow) = some false)
    (qz_TooMany_NoRow : (Value.ref C_TooMany == Value.ref C_NoRow) = false)
    (qs_TooMany_NoRow : PySem.W.subIn K (.ref C_TooMany) (.ref C_NoRow) = some false)
    (qz_NoText_NoRow : (Value.ref C_NoText == Value.ref C_NoRow) = false)
    (qs_NoText_NoRow : PySem.W.subIn K (.ref C_NoText) (.ref C_NoRow) = some false)
    (qz_NoExpr_NoRow : (Value.ref C_NoExpr == Value.ref C_NoRow) = false)
    (qs_NoExpr_NoRow : PySem.W.subIn K (.ref C_NoExpr) (.ref C_NoRow) = some false)
    (qz_HouseError_NoRow : (Value.ref C_HouseError == Value.ref C_NoRow) = false)
    (qs_HouseError_NoRow : PySem.W.subIn K (.ref C_HouseError) (.ref C_NoRow) = some false)
    (qz_NoRow_NoText : (Value.ref C_NoRow == Value.ref C_NoText) = false)
    (qk_NoText : PySem.W.clsIn K C_NoText = some cdd_NoText)
    (qj_NoText : PySem.W.typeIn K (.ref C_NoText) = some (.type "type"))
    (qs_NoRow_NoText : PySem.W.subIn K (.ref C_NoRow) (.ref C_NoText) = some false)
    (qz_TooWide_NoText : (Value.ref C_TooWide == Value.ref C_NoText) = false)
    (qs_TooWide_NoText : PySem.W.subIn K (.ref C_TooWide) (.ref C_NoText) = some false)
    (qz_Fault_NoText : (Value.ref C_Fault == Value.ref C_NoText) = false)
    (qs_Fault_NoText : PySem.W.subIn K (.ref C_Fault) (.ref C_NoText) = some false)
    (qz_NoDrop_NoText : (Value.ref C_NoDrop == Value.ref C_NoText) = false)
    (qs_NoDrop_NoText : PySem.W.subIn K (.ref C_NoDrop) (.ref C_NoText) = some false)
    (qz_NoName_NoText : (Value.ref C_NoName == Value.ref C_NoText) = false)
    (qs_NoName_NoText : PySem.W.subIn K (.ref C_NoName) (.ref C_NoText) = some false)
    (qz_NoPart_NoText : (Value.ref C_NoPart == Value.ref C_NoText) = false)
    (qs_NoPart_NoText : PySem.W.subIn K (.ref C_NoPart) (.ref C_NoText) = some false)
    (qz_Clash_NoText : (Value.ref C_Clash == Value.ref C_NoText) = false)
    (qs_Clash_NoText : PySem.W.subIn K (.ref C_Clash) (.ref C_NoText) = some false)
    (qz_Orphan_NoText : (Value.ref C_Orphan == Value.ref C_NoText) = false)
    (qs_Orphan_NoText : PySem.W.subIn K (.ref C_Orphan) (.ref C_NoText) = some false)
    (qz_Double_NoText : (Value.ref C_Double == Value.ref C_NoText) = false)
    (qs_Double_NoText : PySem.W.subIn K (.ref C_Double) (.ref C_NoText) = some false)
    (qz_Twice_NoText : (Value.ref C_Twice == Value.ref C_NoText) = false)
    (qs_Twice_NoText : PySem.W.subIn K (.ref C_Twice) (.ref C_NoText) = some false)
    (qz_TooMany_NoText : (Value.ref C_TooMany == Value.ref C_NoText) = false)
    (qs_TooMany_NoText : PySem.W.subIn K (.ref C_TooMany) (.ref C_NoText) = some false)
    (qs_NoText_NoText : PySem.W.subIn K (.ref C_NoText) (.ref C_NoText) = some true)
    (qz_NoExpr_NoText : (Value.ref C_NoExpr == Value.ref C_NoText) = false)
    (qs_NoExpr_NoText : PySem.W.subIn K (.ref C_NoExpr) (.ref C_NoText) = some false)
    (qz_HouseError_NoText : (Value.ref C_HouseError == Value.ref C_NoText) = false)
    (qs_HouseError_NoText : PySem.W.subIn K (.ref C_HouseError) (.ref C_NoText) = some false)
    (qz_NoRow_Orphan : (Value.ref C_NoRow == Value.ref C_Orphan) = false)
    (qk_Orphan : PySem.W.clsIn K C_Orphan = some cdd_Orphan)
    (qj_Orphan : PySem.W.typeIn K (.ref C_Orphan) = some (.type "type"))
    (qs_NoRow_Orphan : PySem.W.subIn K (.ref C_NoRow) (.ref C_Orphan) = some false)
    (qz_TooWide_Orphan : (Value.ref C_TooWide == Value.ref C_Orphan) = false)
    (qs_TooWide_Orphan : PySem.W.subIn K (.ref C_TooWide) (.ref C_Orphan) = some false)
    (qz_Fault_Orphan : (Value.ref C_Fault == Value.ref C_Orphan) = false)
    (qs_Fault_Orphan : PySem.W.subIn K (.ref C_Fault) (.ref C_Orphan) = some false)
    (qz_NoDrop_Orphan : (Value.ref C_NoDrop == Value.ref C_Orphan) = false)
    (qs_NoDrop_Orphan : PySem.W.subIn K (.ref C_NoDrop) (.ref C_Orphan) = some false)
    (qz_NoName_Orphan : (Value.ref C_NoName == Value.ref C_Orphan) = false)
    (qs_NoName_Orphan : PySem.W.subIn K (.ref C_NoName) (.ref C_Orphan) = some false)
    (qz_NoPart_Orphan : (Value.ref C_NoPart == Value.ref C_Orphan) = false)
    (qs_NoPart_Orphan : PySem.W.subIn K (.ref C_NoPart) (.ref C_Orphan) = some false)
    (qz_Clash_Orphan : (Value.ref C_Clash == Value.ref C_Orphan) = false)
    (qs_Clash_Orphan : PySem.W.subIn K (.ref C_Clash) (.ref C_Orphan) = some false)
    (qs_Orphan_Orphan : PySem.W.subIn K (.ref C_Orphan) (.ref C_Orphan) = some true)
    (qz_Double_Orphan : (Value.ref C_Double == Value.ref C_Orphan) = false)
    (qs_Double_Orphan : PySem.W.subIn K (.ref C_Double) (.ref C_Orphan) = some false)
    (qz_Twice_Orphan : (Value.ref C_Twice == Value.ref C_Orphan) = false)
    (qs_Twice_Orphan : PySem.W.subIn K (.ref C_Twice) (.ref C_Orphan) = some false)
    (qz_TooMany_Orphan : (Value.ref C_TooMany == Value.ref C_Orphan) = false)
    (qs_TooMany_Orphan : PySem.W.subIn K (.ref C_TooMany) (.ref C_Orphan) = some false)
    (qz_NoText_Orphan : (Value.ref C_NoText == Value.ref C_Orphan) = false)
    (qs_NoText_Orphan : PySem.W.subIn K (.ref C_NoText) (.ref C_Orphan) = some false)
    (qz_NoExpr_Orphan : (Value.ref C_NoExpr == Value.ref C_Orphan) = false)
    (qs_NoExpr_Orphan : PySem.W.subIn K (.ref C_NoExpr) (.ref C_Orphan) = some false)
    (qz_HouseError_Orphan : (Value.ref C_HouseError == Value.ref C_Orphan) = false)
    (qs_HouseError_Orphan : PySem.W.subIn K (.ref C_HouseError) (.ref C_Orphan) = some false)
    (qz_NoRow_TooMany : (Value.ref C_NoRow == Value.ref C_TooMany) = false)
    (qk_TooMany : PySem.W.clsIn K C_TooMany = some cdd_TooMany)
    (qj_TooMany : PySem.W.typeIn K (.ref C_TooMany) = some (.type "type"))
    (qs_NoRow_TooMany : PySem.W.subIn K (.ref C_NoRow) (.ref C_TooMany) = some false)
    (qz_TooWide_TooMany : (Value.ref C_TooWide == Value.ref C_TooMany) = false)
    (qs_TooWide_TooMany : PySem.W.subIn K (.ref C_TooWide) (.ref C_TooMany) = some false)
    (qz_Fault_TooMany : (Value.ref C_Fault == Value.ref C_TooMany) = false)
    (qs_Fault_TooMany : PySem.W.subIn K (.ref C_Fault) (.ref C_TooMany) = some false)
    (qz_NoDrop_TooMany : (Value.ref C_NoDrop == Value.ref C_TooMany) = false)
    (qs_NoDrop_TooMany : PySem.W.subIn K (.ref C_NoDrop) (.ref C_TooMany) = some false)
    (qz_NoName_TooMany : (Value.ref C_NoName == Value.ref C_TooMany) = false)
    (qs_NoName_TooMany : PySem.W.subIn K (.ref C_NoName) (.ref C_TooMany) = some false)
    (qz_NoPart_TooMany : (Value.ref C_NoPart == Value.ref C_TooMany) = false)
    (qs_NoPart_TooMany : PySem.W.subIn K (.ref C_NoPart) (.ref C_TooMany) = some false)
    (qz_Clash_TooMany : (Value.ref C_Clash == Value.ref C_TooMany) = false)
    (qs_Clash_TooMany : PySem.W.subIn K (.ref C_Clash) (.ref C_TooMany) = some false)
    (qz_Orphan_TooMany : (Value.ref C_Orphan == Value.ref C_TooMany) = false)
    (qs_Orphan_TooMany : PySem.W.subIn K (.ref C_Orphan) (.ref C_TooMany) = some false)
    (qz_Double_TooMany : (Value.ref C_Double == Value.ref C_TooMany) = false)
    (qs_Double_TooMany : PySem.W.subIn K (.ref C_Double) (.ref C_TooMany) = some false)
    (qz_Twice_TooMany : (Value.ref C_Twice == Value.ref C_TooMany) = false)
    (qs_Twice_TooMany : PySem.W.subIn K (.ref C_Twice) (.ref C_TooMany) = some false)
    (qs_TooMany_TooMany : PySem.W.subIn K (.ref C_TooMany) (.ref C_TooMany) = some true)
    (qz_NoText_TooMany : (Value.ref C_NoText == Value.ref C_TooMany) = false)
    (qs_NoText_TooMany : PySem.W.subIn K (.ref C_NoText) (.ref C_TooMany) = some false)
    (qz_NoExpr_TooMany : (Value.ref C_NoExpr == Value.ref C_TooMany) = false)
    (qs_NoExpr_TooMany : PySem.W.subIn K (.ref C_NoExpr) (.ref C_TooMany) = some false)
    (qz_HouseError_TooMany : (Value.ref C_HouseError == Value.ref C_TooMany) = false)
    (qs_HouseError_TooMany : PySem.W.subIn K (.ref C_HouseError) (.ref C_TooMany) = some false)
    (qz_NoRow_TooWide : (Value.ref C_NoRow == Value.ref C_TooWide) = false)
    (qk_TooWide : PySem.W.clsIn K C_TooWide = some cdd_TooWide)
    (qs_NoRow_TooWide : PySem.W.subIn K (.ref C_NoRow) (.ref C_TooWide) = some false)
    (qs_TooWide_TooWide : PySem.W.subIn K (.ref C_TooWide) (.ref C_TooWide) = some true)
    (qz_Fault_TooWide : (Value.ref C_Fault == Value.ref C_TooWide) = false)
    (qs_Fault_TooWide : PySem.W.subIn K (.ref C_Fault) (.ref C_TooWide) = some false)
    (qz_NoDrop_TooWide : (Value.ref C_NoDrop == Value.ref C_TooWide) = false)
    (qs_NoDrop_TooWide : PySem.W.subIn K (.ref C_NoDrop) (.ref C_TooWide) = some false)
    (qz_NoName_TooWide : (Value.ref C_NoName == Value.ref C_TooWide) = false)
    (qs_NoName_TooWide : PySem.W.subIn K (.ref C_NoName) (.ref C_TooWide) = some false)
    (qz_NoPart_TooWide : (Value.ref C_NoPart == Value.ref C_TooWide) = false)
    (qs_NoPart_TooWide : PySem.W.subIn K (.ref C_NoPart) (.ref C_TooWide) = some false)
    (qz_Clash_TooWide : (Value.ref C_Clash == Value.ref C_TooWide) = false)
    (qs_Clash_TooWide : PySem.W.subIn K (.ref C_Clash) (.ref C_TooWide) = some false)
    (qz_Orphan_TooWide : (Value.ref C_Orphan == Value.ref C_TooWide) = false)
    (qs_Orphan_TooWide : PySem.W.subIn K (.ref C_Orphan) (.ref C_TooWide) = some false)
    (qz_Double_TooWide : (Value.ref C_Double == Value.ref C_TooWide) = false)
    (qs_Double_TooWide : PySem.W.subIn K (.ref C_Double) (.ref C_TooWide) = some false)
    (qz_Twice_TooWide : (Value.ref C_Twice == Value.ref C_TooWide) = false)
    (qs_Twice_TooWide : PySem.W.subIn K (.ref C_Twice) (.ref C_TooWide) = some false)
    (qz_TooMany_TooWide : (Value.ref C_TooMany == Value.ref C_TooWide) = false)
    (qs_TooMany_TooWide : PySem.W.subIn K (.ref C_TooMany) (.ref C_TooWide) = some false)
    (qz_NoText_TooWide : (Value.ref C_NoText == Value.ref C_TooWide) = false)
    (qs_NoText_TooWide : PySem.W.subIn K (.ref C_NoText) (.ref C_TooWide) = some false)
    (qz_NoExpr_TooWide : (Value.ref C_NoExpr == Value.ref C_TooWide) = false)
    (qs_NoExpr_TooWide : PySem.W.subIn K (.ref C_NoExpr) (.ref C_TooWide) = some false)
    (qz_HouseError_TooWide : (Value.ref C_HouseError == Value.ref C_TooWide) = false)
    (qs_HouseError_TooWide : PySem.W.subIn K (.ref C_HouseError) (.ref C_TooWide) = some false)
    (qz_NoRow_Twice : (Value.ref C_NoRow == Value.ref C_Twice) = false)
    (qk_Twice : PySem.W.clsIn K C_Twice = some cdd_Twice)
    (qj_Twice : PySem.W.typeIn K (.ref C_Twice) = some (.type "type"))
    (qs_NoRow_Twice : PySem.W.subIn K (.ref C_NoRow) (.ref C_Twice) = some false)
    (qz_TooWide_Twice : (Value.ref C_TooWide == Value.ref C_Twice) = false)
    (qs_TooWide_Twice : PySem.W.subIn K (.ref C_TooWide) (.ref C_Twice) = some false)
    (qz_Fault_Twice : (Value.ref C_Fault == Value.ref C_Twice) = false)
    (qs_Fault_Twice : PySem.W.subIn K (.ref C_Fault) (.ref C_Twice) = some false)
    (qz_NoDrop_Twice : (Value.ref C_NoDrop == Value.ref C_Twice) = false)
    (qs_NoDrop_Twice : PySem.W.subIn K (.ref C_NoDrop) (.ref C_Twice) = some false)
    (qz_NoName_Twice : (Value.ref C_NoName == Value.ref C_Twice) = false)
    (qs_NoName_Twice : PySem.W.subIn K (.ref C_NoName) (.ref C_Twice) = some false)
    (qz_NoPart_Twice : (Value.ref C_NoPart == Value.ref C_Twice) = false)
    (qs_NoPart_Twice : PySem.W.subIn K (.ref C_NoPart) (.ref C_Twice) = some false)
    (qz_Clash_Twice : (Value.ref C_Clash == Value.ref C_Twice) = false)
    (qs_Clash_Twice : PySem.W.subIn K (.ref C_Clash) (.ref C_Twice) = some false)
    (qz_Orphan_Twice : (Value.ref C_Orphan == Value.ref C_Twice) = false)
    (qs_Orphan_Twice : PySem.W.subIn K (.ref C_Orphan) (.ref C_Twice) = some false)
    (qz_Double_Twice : (Value.ref C_Double == Value.ref C_Twice) = false)
    (qs_Double_Twice : PySem.W.subIn K (.ref C_Double) (.ref C_Twice) = some false)
    (qs_Twice_Twice : PySem.W.subIn K (.ref C_Twice) (.ref C_Twice) = some true)
    (qz_TooMany_Twice : (Value.ref C_TooMany == Value.ref C_Twice) = false)
    (qs_TooMany_Twice : PySem.W.subIn K (.ref C_TooMany) (.ref C_Twice) = some false)
    (qz_NoText_Twice : (Value.ref C_NoText == Value.ref C_Twice) = false)
    (qs_NoText_Twice : PySem.W.subIn K (.ref C_NoText) (.ref C_Twice) = some false)
    (qz_NoExpr_Twice : (Value.ref C_NoExpr == Value.ref C_Twice) = false)
    (qs_NoExpr_Twice : PySem.W.subIn K (.ref C_NoExpr) (.ref C_Twice) = some false)
    (qz_HouseError_Twice : (Value.ref C_HouseError == Value.ref C_Twice) = false)
    (qs_HouseError_Twice : PySem.W.subIn K (.ref C_HouseError) (.ref C_Twice) = some false)
    (qv_NoRow : PySem.W.subIn K (.ref C_NoRow) (.type "ValueError") = some true)
    (qv_TooWide : PySem.W.subIn K (.ref C_TooWide) (.type "ValueError") = some true)
    (qv_Fault : PySem.W.subIn K (.ref C_Fault) (.type "ValueError") = some true)
    (qv_NoDrop : PySem.W.subIn K (.ref C_NoDrop) (.type "ValueError") = some true)
    (qv_NoName : PySem.W.subIn K (.ref C_NoName) (.type "ValueError") = some true)
    (qv_NoPart : PySem.W.subIn K (.ref C_NoPart) (.type "ValueError") = some true)
    (qv_Clash : PySem.W.subIn K (.ref C_Clash) (.type "ValueError") = some true)
    (qv_Orphan : PySem.W.subIn K (.ref C_Orphan) (.type "ValueError") = some true)
    (qv_Double : PySem.W.subIn K (.ref C_Double) (.type "ValueError") = some true)
    (qv_Twice : PySem.W.subIn K (.ref C_Twice) (.type "ValueError") = some true)
    (qv_TooMany : PySem.W.subIn K (.ref C_TooMany) (.type "ValueError") = some true)
    (qv_NoText : PySem.W.subIn K (.ref C_NoText) (.type "ValueError") = some true)
    (qv_NoExpr : PySem.W.subIn K (.ref C_NoExpr) (.type "ValueError") = some true)
    (qv_HouseError : PySem.W.subIn K (.ref C_HouseError) (.type "ValueError") = some true)
    (qn_NoDrop_address : PySem.W.findIn K (.ref C_NoDrop) "address" = some none)
    (qn_NoPart_address : PySem.W.findIn K (.ref C_NoPart) "address" = some none)
    (qn_NoRow_at : PySem.W.findIn K (.ref C_NoRow) "at" = some none)
    (qn_Clash_at : PySem.W.findIn K (.ref C_Clash) "at" = some none)
    (qn_Orphan_at : PySem.W.findIn K (.ref C_Orphan) "at" = some none)
    (qn_Double_at : PySem.W.findIn K (.ref C_Double) "at" = some none)
    (qn_Twice_at : PySem.W.findIn K (.ref C_Twice) "at" = some none)
    (qn_TooMany_at : PySem.W.findIn K (.ref C_TooMany) "at" = some none)
    (qn_NoText_at : PySem.W.findIn K (.ref C_NoText) "at" = some none)
    (qn_Fault_name : PySem.W.findIn K (.ref C_Fault) "name" = some none)
    (qn_NoName_name : PySem.W.findIn K (.ref C_NoName) "name" = some none)
    (qn_Fault_trail : PySem.W.findIn K (.ref C_Fault) "trail" = some none)
    (qn_Fault_whose : PySem.W.findIn K (.ref C_Fault) "whose" = some none)
    (qn_Fault_word : PySem.W.findIn K (.ref C_Fault) "word" = some none)
    (lx_NoText : K.lookup C_NoText = some (excClassObj nm_NoText qn_NoText C_NoText N_NoText bs_NoText bm_NoText true sn_NoText sb_NoText ab_NoText col_NoText dd_NoText k0_NoText k1_NoText k2_NoText k3_NoText k5_NoText "ValueError.__new__"))
    (rx_NoText : PySem.HandSPX.refsVE bm_NoText = true)
    (sa_NoText : PySem.W.findIn K (.ref C_NoText) "__setattr__" = some (some (.builtin "object.__setattr__")))
    (kc_NoText : PySem.W.keepIn K (.ref C_NoText) = true)
    (lx_TooMany : K.lookup C_TooMany = some (excClassObj nm_TooMany qn_TooMany C_TooMany N_TooMany bs_TooMany bm_TooMany true sn_TooMany sb_TooMany ab_TooMany col_TooMany dd_TooMany k0_TooMany k1_TooMany k2_TooMany k3_TooMany k5_TooMany "ValueError.__new__"))
    (rx_TooMany : PySem.HandSPX.refsVE bm_TooMany = true)
    (sa_TooMany : PySem.W.findIn K (.ref C_TooMany) "__setattr__" = some (some (.builtin "object.__setattr__")))
    (kc_TooMany : PySem.W.keepIn K (.ref C_TooMany) = true)
    (lx_Twice : K.lookup C_Twice = some (excClassObj nm_Twice qn_Twice C_Twice N_Twice bs_Twice bm_Twice true sn_Twice sb_Twice ab_Twice col_Twice dd_Twice k0_Twice k1_Twice k2_Twice k3_Twice k5_Twice "ValueError.__new__"))
    (rx_Twice : PySem.HandSPX.refsVE bm_Twice = true)
    (sa_Twice : PySem.W.findIn K (.ref C_Twice) "__setattr__" = some (some (.builtin "object.__setattr__")))
    (kc_Twice : PySem.W.keepIn K (.ref C_Twice) = true)
    (lx_Double : K.lookup C_Double = some (excClassObj nm_Double qn_Double C_Double N_Double bs_Double bm_Double true sn_Double sb_Double ab_Double col_Double dd_Double k0_Double k1_Double k2_Double k3_Double k5_Double "ValueError.__new__"))
    (rx_Double : PySem.HandSPX.refsVE bm_Double = true)
    (sa_Double : PySem.W.findIn K (.ref C_Double) "__setattr__" = some (some (.builtin "object.__setattr__")))
    (kc_Double : PySem.W.keepIn K (.ref C_Double) = true)
    (lx_Orphan : K.lookup C_Orphan = some (excClassObj nm_Orphan qn_Orphan C_Orphan N_Orphan bs_Orphan bm_Orphan true sn_Orphan sb_Orphan ab_Orphan col_Orphan dd_Orphan k0_Orphan k1_Orphan k2_Orphan k3_Orphan k5_Orphan "ValueError.__new__"))
    (rx_Orphan : PySem.HandSPX.refsVE bm_Orphan = true)
    (sa_Orphan : PySem.W.findIn K (.ref C_Orphan) "__setattr__" = some (some (.builtin "object.__setattr__")))
    (kc_Orphan : PySem.W.keepIn K (.ref C_Orphan) = true)
    (lx_Clash : K.lookup C_Clash = some (excClassObj nm_Clash qn_Clash C_Clash N_Clash bs_Clash bm_Clash true sn_Clash sb_Clash ab_Clash col_Clash dd_Clash k0_Clash k1_Clash k2_Clash k3_Clash k5_Clash "ValueError.__new__"))
    (rx_Clash : PySem.HandSPX.refsVE bm_Clash = true)
    (sa_Clash : PySem.W.findIn K (.ref C_Clash) "__setattr__" = some (some (.builtin "object.__setattr__")))
    (kc_Clash : PySem.W.keepIn K (.ref C_Clash) = true)
    (lx_NoRow : K.lookup C_NoRow = some (excClassObj nm_NoRow qn_NoRow C_NoRow N_NoRow bs_NoRow bm_NoRow true sn_NoRow sb_NoRow ab_NoRow col_NoRow dd_NoRow k0_NoRow k1_NoRow k2_NoRow k3_NoRow k5_NoRow "ValueError.__new__"))
    (rx_NoRow : PySem.HandSPX.refsVE bm_NoRow = true)
    (sa_NoRow : PySem.W.findIn K (.ref C_NoRow) "__setattr__" = some (some (.builtin "object.__setattr__")))
    (kc_NoRow : PySem.W.keepIn K (.ref C_NoRow) = true)
    (lx_NoPart : K.lookup C_NoPart = some (excClassObj nm_NoPart qn_NoPart C_NoPart N_NoPart bs_NoPart bm_NoPart true sn_NoPart sb_NoPart ab_NoPart col_NoPart dd_NoPart k0_NoPart k1_NoPart k2_NoPart k3_NoPart k5_NoPart "ValueError.__new__"))
    (rx_NoPart : PySem.HandSPX.refsVE bm_NoPart = true)
    (sa_NoPart : PySem.W.findIn K (.ref C_NoPart) "__setattr__" = some (some (.builtin "object.__setattr__")))
    (kc_NoPart : PySem.W.keepIn K (.ref C_NoPart) = true)
    (lx_NoDrop : K.lookup C_NoDrop = some (excClassObj nm_NoDrop qn_NoDrop C_NoDrop N_NoDrop bs_NoDrop bm_NoDrop true sn_NoDrop sb_NoDrop ab_NoDrop col_NoDrop dd_NoDrop k0_NoDrop k1_NoDrop k2_NoDrop k3_NoDrop k5_NoDrop "ValueError.__new__"))
    (rx_NoDrop : PySem.HandSPX.refsVE bm_NoDrop = true)
    (sa_NoDrop : PySem.W.findIn K (.ref C_NoDrop) "__setattr__" = some (some (.builtin "object.__setattr__")))
    (kc_NoDrop : PySem.W.keepIn K (.ref C_NoDrop) = true)
    (lx_NoName : K.lookup C_NoName = some (excClassObj nm_NoName qn_NoName C_NoName N_NoName bs_NoName bm_NoName true sn_NoName sb_NoName ab_NoName col_NoName dd_NoName k0_NoName k1_NoName k2_NoName k3_NoName k5_NoName "ValueError.__new__"))
    (rx_NoName : PySem.HandSPX.refsVE bm_NoName = true)
    (sa_NoName : PySem.W.findIn K (.ref C_NoName) "__setattr__" = some (some (.builtin "object.__setattr__")))
    (kc_NoName : PySem.W.keepIn K (.ref C_NoName) = true)
    (lx_Fault : K.lookup C_Fault = some (excClassObj nm_Fault qn_Fault C_Fault N_Fault bs_Fault bm_Fault true sn_Fault sb_Fault ab_Fault col_Fault dd_Fault k0_Fault k1_Fault k2_Fault k3_Fault k5_Fault "ValueError.__new__"))
    (rx_Fault : PySem.HandSPX.refsVE bm_Fault = true)
    (sa_Fault : PySem.W.findIn K (.ref C_Fault) "__setattr__" = some (some (.builtin "object.__setattr__")))
    (kc_Fault : PySem.W.keepIn K (.ref C_Fault) = true)
    (z_ValueError : PySem.W.nsIn K mainGlobals "ValueError" = some none)
    (z_bool : PySem.W.nsIn K mainGlobals "bool" = some none)
    (z_int : PySem.W.nsIn K mainGlobals "int" = some none)
    (z_isinstance : PySem.W.nsIn K mainGlobals "isinstance" = some none)
    (z_len : PySem.W.nsIn K mainGlobals "len" = some none)
    (z_list : PySem.W.nsIn K mainGlobals "list" = some none)
    (z_max : PySem.W.nsIn K mainGlobals "max" = some none)
    (z_min : PySem.W.nsIn K mainGlobals "min" = some none)
    (z_range : PySem.W.nsIn K mainGlobals "range" = some none)
    (z_str : PySem.W.nsIn K mainGlobals "str" = some none) :
    ∃ fd : FuncData, (∀ (s : Shared) (u : Value), BindsTo s fd ⟨[u], []⟩ [("_law_script", u)]) ∧ ∀ base : Heap, K.In base → base.Ns mainGlobals mg → FnOk P w K mg base (L2.CX P w) 4 fa fd ["_law_script"] (sp_law K) := by
  have e := hfa.symm.trans (PySem.W.mg_of X G a21)
  cases e
  have x_HouseError : ExC K mg "HouseError" := ⟨⟨_, PySem.W.mg_of X G qa_HouseError, qa_HouseError, xb_HouseError, kc_HouseError, xd_HouseError, qj_HouseError⟩⟩
  have x_NoExpr : ExC K mg "NoExpr" := ⟨⟨_, PySem.W.mg_of X G qa_NoExpr, qa_NoExpr, xb_NoExpr, kc_NoExpr, xd_NoExpr, qj_NoExpr⟩⟩
  have x_TooWide : ExC K mg "TooWide" := ⟨⟨_, PySem.W.mg_of X G qa_TooWide, qa_TooWide, xb_TooWide, kc_TooWide, xd_TooWide, qj_TooWide⟩⟩
  have xm_HouseError : InitB K mg "HouseError" := ⟨⟨C_HouseError, _, PySem.W.mg_of X G qa_HouseError, rd_HouseError, sg_HouseError, fc_HouseError⟩⟩
  have xC_NoRow : ExcC K C_NoRow := ⟨ga_NoRow, qn_NoRow___getattr__, xd_NoRow, qc_NoRow, qf_NoRow, qg, qh, qi_NoRow⟩
  have xC_TooWide : ExcC K C_TooWide := ⟨ga_TooWide, qn_TooWide___getattr__, xd_TooWide, qc_TooWide, qf_TooWide, qg, qh, qi_TooWide⟩
  have xC_Fault : ExcC K C_Fault := ⟨ga_Fault, qn_Fault___getattr__, xd_Fault, qc_Fault, qf_Fault, qg, qh, qi_Fault⟩
  have xC_NoDrop : ExcC K C_NoDrop := ⟨ga_NoDrop, qn_NoDrop___getattr__, xd_NoDrop, qc_NoDrop, qf_NoDrop, qg, qh, qi_NoDrop⟩
  have xC_NoName : ExcC K C_NoName := ⟨ga_NoName, qn_NoName___getattr__, xd_NoName, qc_NoName, qf_NoName, qg, qh, qi_NoName⟩
  have xC_NoPart : ExcC K C_NoPart := ⟨ga_NoPart, qn_NoPart___getattr__, xd_NoPart, qc_NoPart, qf_NoPart, qg, qh, qi_NoPart⟩
  have xC_Clash : ExcC K C_Clash := ⟨ga_Clash, qn_Clash___getattr__, xd_Clash, qc_Clash, qf_Clash, qg, qh, qi_Clash⟩
  have xC_Orphan : ExcC K C_Orphan := ⟨ga_Orphan, qn_Orphan___getattr__, xd_Orphan, qc_Orphan, qf_Orphan, qg, qh, qi_Orphan⟩
  have xC_Double : ExcC K C_Double := ⟨ga_Double, qn_Double___getattr__, xd_Double, qc_Double, qf_Double, qg, qh, qi_Double⟩
  have xC_Twice : ExcC K C_Twice := ⟨ga_Twice, qn_Twice___getattr__, xd_Twice, qc_Twice, qf_Twice, qg, qh, qi_Twice⟩
  have xC_TooMany : ExcC K C_TooMany := ⟨ga_TooMany, qn_TooMany___getattr__, xd_TooMany, qc_TooMany, qf_TooMany, qg, qh, qi_TooMany⟩
  have xC_NoText : ExcC K C_NoText := ⟨ga_NoText, qn_NoText___getattr__, xd_NoText, qc_NoText, qf_NoText, qg, qh, qi_NoText⟩
  have xC_NoExpr : ExcC K C_NoExpr := ⟨ga_NoExpr, qn_NoExpr___getattr__, xd_NoExpr, qc_NoExpr, qf_NoExpr, qg, qh, qi_NoExpr⟩
  have xC_HouseError : ExcC K C_HouseError := ⟨ga_HouseError, qn_HouseError___getattr__, xd_HouseError, qc_HouseError, qf_HouseError, qg, qh, qi_HouseError⟩
  have xi_Clash : ExIC K mg "Clash" isx_Clash := ⟨⟨C_Clash, PySem.W.mg_of X G qa_Clash, ⟨(tab_cons qa_HouseError ⟨C_HouseError, rfl, xC_HouseError, (kit_own qk_Clash qj_Clash qs_HouseError_Clash (fun h => absurd h (by rw [qz_HouseError_Clash]; exact Bool.false_ne_true)))⟩ (tab_cons qa_NoExpr ⟨C_NoExpr, rfl, xC_NoExpr, (kit_own qk_Clash qj_Clash qs_NoExpr_Clash (fun h => absurd h (by rw [qz_NoExpr_Clash]; exact Bool.false_ne_true)))⟩ (tab_cons qa_NoText ⟨C_NoText, rfl, xC_NoText, (kit_own qk_Clash qj_Clash qs_NoText_Clash (fun h => absurd h (by rw [qz_NoText_Clash]; exact Bool.false_ne_true)))⟩ (tab_cons qa_TooMany ⟨C_TooMany, rfl, xC_TooMany, (kit_own qk_Clash qj_Clash qs_TooMany_Clash (fun h => absurd h (by rw [qz_TooMany_Clash]; exact Bool.false_ne_true)))⟩ (tab_cons qa_Twice ⟨C_Twice, rfl, xC_Twice, (kit_own qk_Clash qj_Clash qs_Twice_Clash (fun h => absurd h (by rw [qz_Twice_Clash]; exact Bool.false_ne_true)))⟩ (tab_cons qa_Double ⟨C_Double, rfl, xC_Double, (kit_own qk_Clash qj_Clash qs_Double_Clash (fun h => absurd h (by rw [qz_Double_Clash]; exact Bool.false_ne_true)))⟩ (tab_cons qa_Orphan ⟨C_Orphan, rfl, xC_Orphan, (kit_own qk_Clash qj_Clash qs_Orphan_Clash (fun h => absurd h (by rw [qz_Orphan_Clash]; exact Bool.false_ne_true)))⟩ (tab_cons qa_Clash ⟨C_Clash, rfl, xC_Clash, (kit_own qk_Clash qj_Clash qs_Clash_Clash (fun _ => rfl))⟩ (tab_cons qa_NoPart ⟨C_NoPart, rfl, xC_NoPart, (kit_own qk_Clash qj_Clash qs_NoPart_Clash (fun h => absurd h (by rw [qz_NoPart_Clash]; exact Bool.false_ne_true)))⟩ (tab_cons qa_NoName ⟨C_NoName, rfl, xC_NoName, (kit_own qk_Clash qj_Clash qs_NoName_Clash (fun h => absurd h (by rw [qz_NoName_Clash]; exact Bool.false_ne_true)))⟩ (tab_cons qa_NoDrop ⟨C_NoDrop, rfl, xC_NoDrop, (kit_own qk_Clash qj_Clash qs_NoDrop_Clash (fun h => absurd h (by rw [qz_NoDrop_Clash]; exact Bool.false_ne_true)))⟩ (tab_cons qa_Fault ⟨C_Fault, rfl, xC_Fault, (kit_own qk_Clash qj_Clash qs_Fault_Clash (fun h => absurd h (by rw [qz_Fault_Clash]; exact Bool.false_ne_true)))⟩ (tab_cons qa_TooWide ⟨C_TooWide, rfl, xC_TooWide, (kit_own qk_Clash qj_Clash qs_TooWide_Clash (fun h => absurd h (by rw [qz_TooWide_Clash]; exact Bool.false_ne_true)))⟩ (tab_cons qa_NoRow ⟨C_NoRow, rfl, xC_NoRow, (kit_own qk_Clash qj_Clash qs_NoRow_Clash (fun h => absurd h (by rw [qz_NoRow_Clash]; exact Bool.false_ne_true)))⟩ tab_nil))))))))))))))⟩⟩⟩
  have xi_Double : ExIC K mg "Double" isx_Double := ⟨⟨C_Double, PySem.W.mg_of X G qa_Double, ⟨(tab_cons qa_HouseError ⟨C_HouseError, rfl, xC_HouseError, (kit_own qk_Double qj_Double qs_HouseError_Double (fun h => absurd h (by rw [qz_HouseError_Double]; exact Bool.false_ne_true)))⟩ (tab_cons qa_NoExpr ⟨C_NoExpr, rfl, xC_NoExpr, (kit_own qk_Double qj_Double qs_NoExpr_Double (fun h => absurd h (by rw [qz_NoExpr_Double]; exact Bool.false_ne_true)))⟩ (tab_cons qa_NoText ⟨C_NoText, rfl, xC_NoText, (kit_own qk_Double qj_Double qs_NoText_Double (fun h => absurd h (by rw [qz_NoText_Double]; exact Bool.false_ne_true)))⟩ (tab_cons qa_TooMany ⟨C_TooMany, rfl, xC_TooMany, (kit_own qk_Double qj_Double qs_TooMany_Double (fun h => absurd h (by rw [qz_TooMany_Double]; exact Bool.false_ne_true)))⟩ (tab_cons qa_Twice ⟨C_Twice, rfl, xC_Twice, (kit_own qk_Double qj_Double qs_Twice_Double (fun h => absurd h (by rw [qz_Twice_Double]; exact Bool.false_ne_true)))⟩ (tab_cons qa_Double ⟨C_Double, rfl, xC_Double, (kit_own qk_Double qj_Double qs_Double_Double (fun _ => rfl))⟩ (tab_cons qa_Orphan ⟨C_Orphan, rfl, xC_Orphan, (kit_own qk_Double qj_Double qs_Orphan_Double (fun h => absurd h (by rw [qz_Orphan_Double]; exact Bool.false_ne_true)))⟩ (tab_cons qa_Clash ⟨C_Clash, rfl, xC_Clash, (kit_own qk_Double qj_Double qs_Clash_Double (fun h => absurd h (by rw [qz_Clash_Double]; exact Bool.false_ne_true)))⟩ (tab_cons qa_NoPart ⟨C_NoPart, rfl, xC_NoPart, (kit_own qk_Double qj_Double qs_NoPart_Double (fun h => absurd h (by rw [qz_NoPart_Double]; exact Bool.false_ne_true)))⟩ (tab_cons qa_NoName ⟨C_NoName, rfl, xC_NoName, (kit_own qk_Double qj_Double qs_NoName_Double (fun h => absurd h (by rw [qz_NoName_Double]; exact Bool.false_ne_true)))⟩ (tab_cons qa_NoDrop ⟨C_NoDrop, rfl, xC_NoDrop, (kit_own qk_Double qj_Double qs_NoDrop_Double (fun h => absurd h (by rw [qz_NoDrop_Double]; exact Bool.false_ne_true)))⟩ (tab_cons qa_Fault ⟨C_Fault, rfl, xC_Fault, (kit_own qk_Double qj_Double qs_Fault_Double (fun h => absurd h (by rw [qz_Fault_Double]; exact Bool.false_ne_true)))⟩ (tab_cons qa_TooWide ⟨C_TooWide, rfl, xC_TooWide, (kit_own qk_Double qj_Double qs_TooWide_Double (fun h => absurd h (by rw [qz_TooWide_Double]; exact Bool.false_ne_true)))⟩ (tab_cons qa_NoRow ⟨C_NoRow, rfl, xC_NoRow, (kit_own qk_Double qj_Double qs_NoRow_Double (fun h => absurd h (by rw [qz_NoRow_Double]; exact Bool.false_ne_true)))⟩ tab_nil))))))))))))))⟩⟩⟩
  have xi_Fault : ExIC K mg "Fault" isx_Fault := ⟨⟨C_Fault, PySem.W.mg_of X G qa_Fault, ⟨(tab_cons qa_HouseError ⟨C_HouseError, rfl, xC_HouseError, (kit_own qk_Fault qj_Fault qs_HouseError_Fault (fun h => absurd h (by rw [qz_HouseError_Fault]; exact Bool.false_ne_true)))⟩ (tab_cons qa_NoExpr ⟨C_NoExpr, rfl, xC_NoExpr, (kit_own qk_Fault qj_Fault qs_NoExpr_Fault (fun h => absurd h (by rw [qz_NoExpr_Fault]; exact Bool.false_ne_true)))⟩ (tab_cons qa_NoText ⟨C_NoText, rfl, xC_NoText, (kit_own qk_Fault qj_Fault qs_NoText_Fault (fun h => absurd h (by rw [qz_NoText_Fault]; exact Bool.false_ne_true)))⟩ (tab_cons qa_TooMany ⟨C_TooMany, rfl, xC_TooMany, (kit_own qk_Fault qj_Fault qs_TooMany_Fault (fun h => absurd h (by rw [qz_TooMany_Fault]; exact Bool.false_ne_true)))⟩ (tab_cons qa_Twice ⟨C_Twice, rfl, xC_Twice, (kit_own qk_Fault qj_Fault qs_Twice_Fault (fun h => absurd h (by rw [qz_Twice_Fault]; exact Bool.false_ne_true)))⟩ (tab_cons qa_Double ⟨C_Double, rfl, xC_Double, (kit_own qk_Fault qj_Fault qs_Double_Fault (fun h => absurd h (by rw [qz_Double_Fault]; exact Bool.false_ne_true)))⟩ (tab_cons qa_Orphan ⟨C_Orphan, rfl, xC_Orphan, (kit_own qk_Fault qj_Fault qs_Orphan_Fault (fun h => absurd h (by rw [qz_Orphan_Fault]; exact Bool.false_ne_true)))⟩ (tab_cons qa_Clash ⟨C_Clash, rfl, xC_Clash, (kit_own qk_Fault qj_Fault qs_Clash_Fault (fun h => absurd h (by rw [qz_Clash_Fault]; exact Bool.false_ne_true)))⟩ (tab_cons qa_NoPart ⟨C_NoPart, rfl, xC_NoPart, (kit_own qk_Fault qj_Fault qs_NoPart_Fault (fun h => absurd h (by rw [qz_NoPart_Fault]; exact Bool.false_ne_true)))⟩ (tab_cons qa_NoName ⟨C_NoName, rfl, xC_NoName, (kit_own qk_Fault qj_Fault qs_NoName_Fault (fun h => absurd h (by rw [qz_NoName_Fault]; exact Bool.false_ne_true)))⟩ (tab_cons qa_NoDrop ⟨C_NoDrop, rfl, xC_NoDrop, (kit_own qk_Fault qj_Fault qs_NoDrop_Fault (fun h => absurd h (by rw [qz_NoDrop_Fault]; exact Bool.false_ne_true)))⟩ (tab_cons qa_Fault ⟨C_Fault, rfl, xC_Fault, (kit_own qk_Fault qj_Fault qs_Fault_Fault (fun _ => rfl))⟩ (tab_cons qa_TooWide ⟨C_TooWide, rfl, xC_TooWide, (kit_own qk_Fault qj_Fault qs_TooWide_Fault (fun h => absurd h (by rw [qz_TooWide_Fault]; exact Bool.false_ne_true)))⟩ (tab_cons qa_NoRow ⟨C_NoRow, rfl, xC_NoRow, (kit_own qk_Fault qj_Fault qs_NoRow_Fault (fun h => absurd h (by rw [qz_NoRow_Fault]; exact Bool.false_ne_true)))⟩ tab_nil))))))))))))))⟩⟩⟩
  have xi_HouseError : ExIC K mg "HouseError" isx_HouseError := ⟨⟨C_HouseError, PySem.W.mg_of X G qa_HouseError, ⟨(tab_cons qa_HouseError ⟨C_HouseError, rfl, xC_HouseError, (kit_own qk_HouseError qj_HouseError qs_HouseError_HouseError (fun _ => rfl))⟩ (tab_cons qa_NoExpr ⟨C_NoExpr, rfl, xC_NoExpr, (kit_own qk_HouseError qj_HouseError qs_NoExpr_HouseError (fun _ => rfl))⟩ (tab_cons qa_NoText ⟨C_NoText, rfl, xC_NoText, (kit_own qk_HouseError qj_HouseError qs_NoText_HouseError (fun _ => rfl))⟩ (tab_cons qa_TooMany ⟨C_TooMany, rfl, xC_TooMany, (kit_own qk_HouseError qj_HouseError qs_TooMany_HouseError (fun _ => rfl))⟩ (tab_cons qa_Twice ⟨C_Twice, rfl, xC_Twice, (kit_own qk_HouseError qj_HouseError qs_Twice_HouseError (fun _ => rfl))⟩ (tab_cons qa_Double ⟨C_Double, rfl, xC_Double, (kit_own qk_HouseError qj_HouseError qs_Double_HouseError (fun _ => rfl))⟩ (tab_cons qa_Orphan ⟨C_Orphan, rfl, xC_Orphan, (kit_own qk_HouseError qj_HouseError qs_Orphan_HouseError (fun _ => rfl))⟩ (tab_cons qa_Clash ⟨C_Clash, rfl, xC_Clash, (kit_own qk_HouseError qj_HouseError qs_Clash_HouseError (fun _ => rfl))⟩ (tab_cons qa_NoPart ⟨C_NoPart, rfl, xC_NoPart, (kit_own qk_HouseError qj_HouseError qs_NoPart_HouseError (fun _ => rfl))⟩ (tab_cons qa_NoName ⟨C_NoName, rfl, xC_NoName, (kit_own qk_HouseError qj_HouseError qs_NoName_HouseError (fun _ => rfl))⟩ (tab_cons qa_NoDrop ⟨C_NoDrop, rfl, xC_NoDrop, (kit_own qk_HouseError qj_HouseError qs_NoDrop_HouseError (fun _ => rfl))⟩ (tab_cons qa_Fault ⟨C_Fault, rfl, xC_Fault, (kit_own qk_HouseError qj_HouseError qs_Fault_HouseError (fun _ => rfl))⟩ (tab_cons qa_TooWide ⟨C_TooWide, rfl, xC_TooWide, (kit_own qk_HouseError qj_HouseError qs_TooWide_HouseError (fun _ => rfl))⟩ (tab_cons qa_NoRow ⟨C_NoRow, rfl, xC_NoRow, (kit_own qk_HouseError qj_HouseError qs_NoRow_HouseError (fun _ => rfl))⟩ tab_nil))))))))))))))⟩⟩⟩
  have xi_NoDrop : ExIC K mg "NoDrop" isx_NoDrop := ⟨⟨C_NoDrop, PySem.W.mg_of X G qa_NoDrop, ⟨(tab_cons qa_HouseError ⟨C_HouseError, rfl, xC_HouseError, (kit_own qk_NoDrop qj_NoDrop qs_HouseError_NoDrop (fun h => absurd h (by rw [qz_HouseError_NoDrop]; exact Bool.false_ne_true)))⟩ (tab_cons qa_NoExpr ⟨C_NoExpr, rfl, xC_NoExpr, (kit_own qk_NoDrop qj_NoDrop qs_NoExpr_NoDrop (fun h => absurd h (by rw [qz_NoExpr_NoDrop]; exact Bool.false_ne_true)))⟩ (tab_cons qa_NoText ⟨C_NoText, rfl, xC_NoText, (kit_own qk_NoDrop qj_NoDrop qs_NoText_NoDrop (fun h => absurd h (by rw [qz_NoText_NoDrop]; exact Bool.false_ne_true)))⟩ (tab_cons qa_TooMany ⟨C_TooMany, rfl, xC_TooMany, (kit_own qk_NoDrop qj_NoDrop qs_TooMany_NoDrop (fun h => absurd h (by rw [qz_TooMany_NoDrop]; exact Bool.false_ne_true)))⟩ (tab_cons qa_Twice ⟨C_Twice, rfl, xC_Twice, (kit_own qk_NoDrop qj_NoDrop qs_Twice_NoDrop (fun h => absurd h (by rw [qz_Twice_NoDrop]; exact Bool.false_ne_true)))⟩ (tab_cons qa_Double ⟨C_Double, rfl, xC_Double, (kit_own qk_NoDrop qj_NoDrop qs_Double_NoDrop (fun h => absurd h (by rw [qz_Double_NoDrop]; exact Bool.false_ne_true)))⟩ (tab_cons qa_Orphan ⟨C_Orphan, rfl, xC_Orphan, (kit_own qk_NoDrop qj_NoDrop qs_Orphan_NoDrop (fun h => absurd h (by rw [qz_Orphan_NoDrop]; exact Bool.false_ne_true)))⟩ (tab_cons qa_Clash ⟨C_Clash, rfl, xC_Clash, (kit_own qk_NoDrop qj_NoDrop qs_Clash_NoDrop (fun h => absurd h (by rw [qz_Clash_NoDrop]; exact Bool.false_ne_true)))⟩ (tab_cons qa_NoPart ⟨C_NoPart, rfl, xC_NoPart, (kit_own qk_NoDrop qj_NoDrop qs_NoPart_NoDrop (fun h => absurd h (by rw [qz_NoPart_NoDrop]; exact Bool.false_ne_true)))⟩ (tab_cons qa_NoName ⟨C_NoName, rfl, xC_NoName, (kit_own qk_NoDrop qj_NoDrop qs_NoName_NoDrop (fun h => absurd h (by rw [qz_NoName_NoDrop]; exact Bool.false_ne_true)))⟩ (tab_cons qa_NoDrop ⟨C_NoDrop, rfl, xC_NoDrop, (kit_own qk_NoDrop qj_NoDrop qs_NoDrop_NoDrop (fun _ => rfl))⟩ (tab_cons qa_Fault ⟨C_Fault, rfl, xC_Fault, (kit_own qk_NoDrop qj_NoDrop qs_Fault_NoDrop (fun h => absurd h (by rw [qz_Fault_NoDrop]; exact Bool.false_ne_true)))⟩ (tab_cons qa_TooWide ⟨C_TooWide, rfl, xC_TooWide, (kit_own qk_NoDrop qj_NoDrop qs_TooWide_NoDrop (fun h => absurd h (by rw [qz_TooWide_NoDrop]; exact Bool.false_ne_true)))⟩ (tab_cons qa_NoRow ⟨C_NoRow, rfl, xC_NoRow, (kit_own qk_NoDrop qj_NoDrop qs_NoRow_NoDrop (fun h => absurd h (by rw [qz_NoRow_NoDrop]; exact Bool.false_ne_true)))⟩ tab_nil))))))))))))))⟩⟩⟩
  have xi_NoExpr : ExIC K mg "NoExpr" isx_NoExpr := ⟨⟨C_NoExpr, PySem.W.mg_of X G qa_NoExpr, ⟨(tab_cons qa_HouseError ⟨C_HouseError, rfl, xC_HouseError, (kit_own qk_NoExpr qj_NoExpr qs_HouseError_NoExpr (fun h => absurd h (by rw [qz_HouseError_NoExpr]; exact Bool.false_ne_true)))⟩ (tab_cons qa_NoExpr ⟨C_NoExpr, rfl, xC_NoExpr, (kit_own qk_NoExpr qj_NoExpr qs_NoExpr_NoExpr (fun _ => rfl))⟩ (tab_cons qa_NoText ⟨C_NoText, rfl, xC_NoText, (kit_own qk_NoExpr qj_NoExpr qs_NoText_NoExpr (fun h => absurd h (by rw [qz_NoText_NoExpr]; exact Bool.false_ne_true)))⟩ (tab_cons qa_TooMany ⟨C_TooMany, rfl, xC_TooMany, (kit_own qk_NoExpr qj_NoExpr qs_TooMany_NoExpr (fun h => absurd h (by rw [qz_TooMany_NoExpr]; exact Bool.false_ne_true)))⟩ (tab_cons qa_Twice ⟨C_Twice, rfl, xC_Twice, (kit_own qk_NoExpr qj_NoExpr qs_Twice_NoExpr (fun h => absurd h (by rw [qz_Twice_NoExpr]; exact Bool.false_ne_true)))⟩ (tab_cons qa_Double ⟨C_Double, rfl, xC_Double, (kit_own qk_NoExpr qj_NoExpr qs_Double_NoExpr (fun h => absurd h (by rw [qz_Double_NoExpr]; exact Bool.false_ne_true)))⟩ (tab_cons qa_Orphan ⟨C_Orphan, rfl, xC_Orphan, (kit_own qk_NoExpr qj_NoExpr qs_Orphan_NoExpr (fun h => absurd h (by rw [qz_Orphan_NoExpr]; exact Bool.false_ne_true)))⟩ (tab_cons qa_Clash ⟨C_Clash, rfl, xC_Clash, (kit_own qk_NoExpr qj_NoExpr qs_Clash_NoExpr (fun h => absurd h (by rw [qz_Clash_NoExpr]; exact Bool.false_ne_true)))⟩ (tab_cons qa_NoPart ⟨C_NoPart, rfl, xC_NoPart, (kit_own qk_NoExpr qj_NoExpr qs_NoPart_NoExpr (fun h => absurd h (by rw [qz_NoPart_NoExpr]; exact Bool.false_ne_true)))⟩ (tab_cons qa_NoName ⟨C_NoName, rfl, xC_NoName, (kit_own qk_NoExpr qj_NoExpr qs_NoName_NoExpr (fun h => absurd h (by rw [qz_NoName_NoExpr]; exact Bool.false_ne_true)))⟩ (tab_cons qa_NoDrop ⟨C_NoDrop, rfl, xC_NoDrop, (kit_own qk_NoExpr qj_NoExpr qs_NoDrop_NoExpr (fun h => absurd h (by rw [qz_NoDrop_NoExpr]; exact Bool.false_ne_true)))⟩ (tab_cons qa_Fault ⟨C_Fault, rfl, xC_Fault, (kit_own qk_NoExpr qj_NoExpr qs_Fault_NoExpr (fun h => absurd h (by rw [qz_Fault_NoExpr]; exact Bool.false_ne_true)))⟩ (tab_cons qa_TooWide ⟨C_TooWide, rfl, xC_TooWide, (kit_own qk_NoExpr qj_NoExpr qs_TooWide_NoExpr (fun h => absurd h (by rw [qz_TooWide_NoExpr]; exact Bool.false_ne_true)))⟩ (tab_cons qa_NoRow ⟨C_NoRow, rfl, xC_NoRow, (kit_own qk_NoExpr qj_NoExpr qs_NoRow_NoExpr (fun h => absurd h (by rw [qz_NoRow_NoExpr]; exact Bool.false_ne_true)))⟩ tab_nil))))))))))))))⟩⟩⟩
  have xi_NoName : ExIC K mg "NoName" isx_NoName := ⟨⟨C_NoName, PySem.W.mg_of X G qa_NoName, ⟨(tab_cons qa_HouseError ⟨C_HouseError, rfl, xC_HouseError, (kit_own qk_NoName qj_NoName qs_HouseError_NoName (fun h => absurd h (by rw [qz_HouseError_NoName]; exact Bool.false_ne_true)))⟩ (tab_cons qa_NoExpr ⟨C_NoExpr, rfl, xC_NoExpr, (kit_own qk_NoName qj_NoName qs_NoExpr_NoName (fun h => absurd h (by rw [qz_NoExpr_NoName]; exact Bool.false_ne_true)))⟩ (tab_cons qa_NoText ⟨C_NoText, rfl, xC_NoText, (kit_own qk_NoName qj_NoName qs_NoText_NoName (fun h => absurd h (by rw [qz_NoText_NoName]; exact Bool.false_ne_true)))⟩ (tab_cons qa_TooMany ⟨C_TooMany, rfl, xC_TooMany, (kit_own qk_NoName qj_NoName qs_TooMany_NoName (fun h => absurd h (by rw [qz_TooMany_NoName]; exact Bool.false_ne_true)))⟩ (tab_cons qa_Twice ⟨C_Twice, rfl, xC_Twice, (kit_own qk_NoName qj_NoName qs_Twice_NoName (fun h => absurd h (by rw [qz_Twice_NoName]; exact Bool.false_ne_true)))⟩ (tab_cons qa_Double ⟨C_Double, rfl, xC_Double, (kit_own qk_NoName qj_NoName qs_Double_NoName (fun h => absurd h (by rw [qz_Double_NoName]; exact Bool.false_ne_true)))⟩ (tab_cons qa_Orphan ⟨C_Orphan, rfl, xC_Orphan, (kit_own qk_NoName qj_NoName qs_Orphan_NoName (fun h => absurd h (by rw [qz_Orphan_NoName]; exact Bool.false_ne_true)))⟩ (tab_cons qa_Clash ⟨C_Clash, rfl, xC_Clash, (kit_own qk_NoName qj_NoName qs_Clash_NoName (fun h => absurd h (by rw [qz_Clash_NoName]; exact Bool.false_ne_true)))⟩ (tab_cons qa_NoPart ⟨C_NoPart, rfl, xC_NoPart, (kit_own qk_NoName qj_NoName qs_NoPart_NoName (fun h => absurd h (by rw [qz_NoPart_NoName]; exact Bool.false_ne_true)))⟩ (tab_cons qa_NoName ⟨C_NoName, rfl, xC_NoName, (kit_own qk_NoName qj_NoName qs_NoName_NoName (fun _ => rfl))⟩ (tab_cons qa_NoDrop ⟨C_NoDrop, rfl, xC_NoDrop, (kit_own qk_NoName qj_NoName qs_NoDrop_NoName (fun h => absurd h (by rw [qz_NoDrop_NoName]; exact Bool.false_ne_true)))⟩ (tab_cons qa_Fault ⟨C_Fault, rfl, xC_Fault, (kit_own qk_NoName qj_NoName qs_Fault_NoName (fun h => absurd h (by rw [qz_Fault_NoName]; exact Bool.false_ne_true)))⟩ (tab_cons qa_TooWide ⟨C_TooWide, rfl, xC_TooWide, (kit_own qk_NoName qj_NoName qs_TooWide_NoName (fun h => absurd h (by rw [qz_TooWide_NoName]; exact Bool.false_ne_true)))⟩ (tab_cons qa_NoRow ⟨C_NoRow, rfl, xC_NoRow, (kit_own qk_NoName qj_NoName qs_NoRow_NoName (fun h => absurd h (by rw [qz_NoRow_NoName]; exact Bool.false_ne_true)))⟩ tab_nil))))))))))))))⟩⟩⟩
  have xi_NoPart : ExIC K mg "NoPart" isx_NoPart := ⟨⟨C_NoPart, PySem.W.mg_of X G qa_NoPart, ⟨(tab_cons qa_HouseError ⟨C_HouseError, rfl, xC_HouseError, (kit_own qk_NoPart qj_NoPart qs_HouseError_NoPart (fun h => absurd h (by rw [qz_HouseError_NoPart]; exact Bool.false_ne_true)))⟩ (tab_cons qa_NoExpr ⟨C_NoExpr, rfl, xC_NoExpr, (kit_own qk_NoPart qj_NoPart qs_NoExpr_NoPart (fun h => absurd h (by rw [qz_NoExpr_NoPart]; exact Bool.false_ne_true)))⟩ (tab_cons qa_NoText ⟨C_NoText, rfl, xC_NoText, (kit_own qk_NoPart qj_NoPart qs_NoText_NoPart (fun h => absurd h (by rw [qz_NoText_NoPart]; exact Bool.false_ne_true)))⟩ (tab_cons qa_TooMany ⟨C_TooMany, rfl, xC_TooMany, (kit_own qk_NoPart qj_NoPart qs_TooMany_NoPart (fun h => absurd h (by rw [qz_TooMany_NoPart]; exact Bool.false_ne_true)))⟩ (tab_cons qa_Twice ⟨C_Twice, rfl, xC_Twice, (kit_own qk_NoPart qj_NoPart qs_Twice_NoPart (fun h => absurd h (by rw [qz_Twice_NoPart]; exact Bool.false_ne_true)))⟩ (tab_cons qa_Double ⟨C_Double, rfl, xC_Double, (kit_own qk_NoPart qj_NoPart qs_Double_NoPart (fun h => absurd h (by rw [qz_Double_NoPart]; exact Bool.false_ne_true)))⟩ (tab_cons qa_Orphan ⟨C_Orphan, rfl, xC_Orphan, (kit_own qk_NoPart qj_NoPart qs_Orphan_NoPart (fun h => absurd h (by rw [qz_Orphan_NoPart]; exact Bool.false_ne_true)))⟩ (tab_cons qa_Clash ⟨C_Clash, rfl, xC_Clash, (kit_own qk_NoPart qj_NoPart qs_Clash_NoPart (fun h => absurd h (by rw [qz_Clash_NoPart]; exact Bool.false_ne_true)))⟩ (tab_cons qa_NoPart ⟨C_NoPart, rfl, xC_NoPart, (kit_own qk_NoPart qj_NoPart qs_NoPart_NoPart (fun _ => rfl))⟩ (tab_cons qa_NoName ⟨C_NoName, rfl, xC_NoName, (kit_own qk_NoPart qj_NoPart qs_NoName_NoPart (fun h => absurd h (by rw [qz_NoName_NoPart]; exact Bool.false_ne_true)))⟩ (tab_cons qa_NoDrop ⟨C_NoDrop, rfl, xC_NoDrop, (kit_own qk_NoPart qj_NoPart qs_NoDrop_NoPart (fun h => absurd h (by rw [qz_NoDrop_NoPart]; exact Bool.false_ne_true)))⟩ (tab_cons qa_Fault ⟨C_Fault, rfl, xC_Fault, (kit_own qk_NoPart qj_NoPart qs_Fault_NoPart (fun h => absurd h (by rw [qz_Fault_NoPart]; exact Bool.false_ne_true)))⟩ (tab_cons qa_TooWide ⟨C_TooWide, rfl, xC_TooWide, (kit_own qk_NoPart qj_NoPart qs_TooWide_NoPart (fun h => absurd h (by rw [qz_TooWide_NoPart]; exact Bool.false_ne_true)))⟩ (tab_cons qa_NoRow ⟨C_NoRow, rfl, xC_NoRow, (kit_own qk_NoPart qj_NoPart qs_NoRow_NoPart (fun h => absurd h (by rw [qz_NoRow_NoPart]; exact Bool.false_ne_true)))⟩ tab_nil))))))))))))))⟩⟩⟩
  have xi_NoRow : ExIC K mg "NoRow" isx_NoRow := ⟨⟨C_NoRow, PySem.W.mg_of X G qa_NoRow, ⟨(tab_cons qa_HouseError ⟨C_HouseError, rfl, xC_HouseError, (kit_own qk_NoRow qj_NoRow qs_HouseError_NoRow (fun h => absurd h (by rw [qz_HouseError_NoRow]; exact Bool.false_ne_true)))⟩ (tab_cons qa_NoExpr ⟨C_NoExpr, rfl, xC_NoExpr, (kit_own qk_NoRow qj_NoRow qs_NoExpr_NoRow (fun h => absurd h (by rw [qz_NoExpr_NoRow]; exact Bool.false_ne_true)))⟩ (tab_cons qa_NoText ⟨C_NoText, rfl, xC_NoText, (kit_own qk_NoRow qj_NoRow qs_NoText_NoRow (fun h => absurd h (by rw [qz_NoText_NoRow]; exact Bool.false_ne_true)))⟩ (tab_cons qa_TooMany ⟨C_TooMany, rfl, xC_TooMany, (kit_own qk_NoRow qj_NoRow qs_TooMany_NoRow (fun h => absurd h (by rw [qz_TooMany_NoRow]; exact Bool.false_ne_true)))⟩ (tab_cons qa_Twice ⟨C_Twice, rfl, xC_Twice, (kit_own qk_NoRow qj_NoRow qs_Twice_NoRow (fun h => absurd h (by rw [qz_Twice_NoRow]; exact Bool.false_ne_true)))⟩ (tab_cons qa_Double ⟨C_Double, rfl, xC_Double, (kit_own qk_NoRow qj_NoRow qs_Double_NoRow (fun h => absurd h (by rw [qz_Double_NoRow]; exact Bool.false_ne_true)))⟩ (tab_cons qa_Orphan ⟨C_Orphan, rfl, xC_Orphan, (kit_own qk_NoRow qj_NoRow qs_Orphan_NoRow (fun h => absurd h (by rw [qz_Orphan_NoRow]; exact Bool.false_ne_true)))⟩ (tab_cons qa_Clash ⟨C_Clash, rfl, xC_Clash, (kit_own qk_NoRow qj_NoRow qs_Clash_NoRow (fun h => absurd h (by rw [qz_Clash_NoRow]; exact Bool.false_ne_true)))⟩ (tab_cons qa_NoPart ⟨C_NoPart, rfl, xC_NoPart, (kit_own qk_NoRow qj_NoRow qs_NoPart_NoRow (fun h => absurd h (by rw [qz_NoPart_NoRow]; exact Bool.false_ne_true)))⟩ (tab_cons qa_NoName ⟨C_NoName, rfl, xC_NoName, (kit_own qk_NoRow qj_NoRow qs_NoName_NoRow (fun h => absurd h (by rw [qz_NoName_NoRow]; exact Bool.false_ne_true)))⟩ (tab_cons qa_NoDrop ⟨C_NoDrop, rfl, xC_NoDrop, (kit_own qk_NoRow qj_NoRow qs_NoDrop_NoRow (fun h => absurd h (by rw [qz_NoDrop_NoRow]; exact Bool.false_ne_true)))⟩ (tab_cons qa_Fault ⟨C_Fault, rfl, xC_Fault, (kit_own qk_NoRow qj_NoRow qs_Fault_NoRow (fun h => absurd h (by rw [qz_Fault_NoRow]; exact Bool.false_ne_true)))⟩ (tab_cons qa_TooWide ⟨C_TooWide, rfl, xC_TooWide, (kit_own qk_NoRow qj_NoRow qs_TooWide_NoRow (fun h => absurd h (by rw [qz_TooWide_NoRow]; exact Bool.false_ne_true)))⟩ (tab_cons qa_NoRow ⟨C_NoRow, rfl, xC_NoRow, (kit_own qk_NoRow qj_NoRow qs_NoRow_NoRow (fun _ => rfl))⟩ tab_nil))))))))))))))⟩⟩⟩
  have xi_NoText : ExIC K mg "NoText" isx_NoText := ⟨⟨C_NoText, PySem.W.mg_of X G qa_NoText, ⟨(tab_cons qa_HouseError ⟨C_HouseError, rfl, xC_HouseError, (kit_own qk_NoText qj_NoText qs_HouseError_NoText (fun h => absurd h (by rw [qz_HouseError_NoText]; exact Bool.false_ne_true)))⟩ (tab_cons qa_NoExpr ⟨C_NoExpr, rfl, xC_NoExpr, (kit_own qk_NoText qj_NoText qs_NoExpr_NoText (fun h => absurd h (by rw [qz_NoExpr_NoText]; exact Bool.false_ne_true)))⟩ (tab_cons qa_NoText ⟨C_NoText, rfl, xC_NoText, (kit_own qk_NoText qj_NoText qs_NoText_NoText (fun _ => rfl))⟩ (tab_cons qa_TooMany ⟨C_TooMany, rfl, xC_TooMany, (kit_own qk_NoText qj_NoText qs_TooMany_NoText (fun h => absurd h (by rw [qz_TooMany_NoText]; exact Bool.false_ne_true)))⟩ (tab_cons qa_Twice ⟨C_Twice, rfl, xC_Twice, (kit_own qk_NoText qj_NoText qs_Twice_NoText (fun h => absurd h (by rw [qz_Twice_NoText]; exact Bool.false_ne_true)))⟩ (tab_cons qa_Double ⟨C_Double, rfl, xC_Double, (kit_own qk_NoText qj_NoText qs_Double_NoText (fun h => absurd h (by rw [qz_Double_NoText]; exact Bool.false_ne_true)))⟩ (tab_cons qa_Orphan ⟨C_Orphan, rfl, xC_Orphan, (kit_own qk_NoText qj_NoText qs_Orphan_NoText (fun h => absurd h (by rw [qz_Orphan_NoText]; exact Bool.false_ne_true)))⟩ (tab_cons qa_Clash ⟨C_Clash, rfl, xC_Clash, (kit_own qk_NoText qj_NoText qs_Clash_NoText (fun h => absurd h (by rw [qz_Clash_NoText]; exact Bool.false_ne_true)))⟩ (tab_cons qa_NoPart ⟨C_NoPart, rfl, xC_NoPart, (kit_own qk_NoText qj_NoText qs_NoPart_NoText (fun h => absurd h (by rw [qz_NoPart_NoText]; exact Bool.false_ne_true)))⟩ (tab_cons qa_NoName ⟨C_NoName, rfl, xC_NoName, (kit_own qk_NoText qj_NoText qs_NoName_NoText (fun h => absurd h (by rw [qz_NoName_NoText]; exact Bool.false_ne_true)))⟩ (tab_cons qa_NoDrop ⟨C_NoDrop, rfl, xC_NoDrop, (kit_own qk_NoText qj_NoText qs_NoDrop_NoText (fun h => absurd h (by rw [qz_NoDrop_NoText]; exact Bool.false_ne_true)))⟩ (tab_cons qa_Fault ⟨C_Fault, rfl, xC_Fault, (kit_own qk_NoText qj_NoText qs_Fault_NoText (fun h => absurd h (by rw [qz_Fault_NoText]; exact Bool.false_ne_true)))⟩ (tab_cons qa_TooWide ⟨C_TooWide, rfl, xC_TooWide, (kit_own qk_NoText qj_NoText qs_TooWide_NoText (fun h => absurd h (by rw [qz_TooWide_NoText]; exact Bool.false_ne_true)))⟩ (tab_cons qa_NoRow ⟨C_NoRow, rfl, xC_NoRow, (kit_own qk_NoText qj_NoText qs_NoRow_NoText (fun h => absurd h (by rw [qz_NoRow_NoText]; exact Bool.false_ne_true)))⟩ tab_nil))))))))))))))⟩⟩⟩
  have xi_Orphan : ExIC K mg "Orphan" isx_Orphan := ⟨⟨C_Orphan, PySem.W.mg_of X G qa_Orphan, ⟨(tab_cons qa_HouseError ⟨C_HouseError, rfl, xC_HouseError, (kit_own qk_Orphan qj_Orphan qs_HouseError_Orphan (fun h => absurd h (by rw [qz_HouseError_Orphan]; exact Bool.false_ne_true)))⟩ (tab_cons qa_NoExpr ⟨C_NoExpr, rfl, xC_NoExpr, (kit_own qk_Orphan qj_Orphan qs_NoExpr_Orphan (fun h => absurd h (by rw [qz_NoExpr_Orphan]; exact Bool.false_ne_true)))⟩ (tab_cons qa_NoText ⟨C_NoText, rfl, xC_NoText, (kit_own qk_Orphan qj_Orphan qs_NoText_Orphan (fun h => absurd h (by rw [qz_NoText_Orphan]; exact Bool.false_ne_true)))⟩ (tab_cons qa_TooMany ⟨C_TooMany, rfl, xC_TooMany, (kit_own qk_Orphan qj_Orphan qs_TooMany_Orphan (fun h => absurd h (by rw [qz_TooMany_Orphan]; exact Bool.false_ne_true)))⟩ (tab_cons qa_Twice ⟨C_Twice, rfl, xC_Twice, (kit_own qk_Orphan qj_Orphan qs_Twice_Orphan (fun h => absurd h (by rw [qz_Twice_Orphan]; exact Bool.false_ne_true)))⟩ (tab_cons qa_Double ⟨C_Double, rfl, xC_Double, (kit_own qk_Orphan qj_Orphan qs_Double_Orphan (fun h => absurd h (by rw [qz_Double_Orphan]; exact Bool.false_ne_true)))⟩ (tab_cons qa_Orphan ⟨C_Orphan, rfl, xC_Orphan, (kit_own qk_Orphan qj_Orphan qs_Orphan_Orphan (fun _ => rfl))⟩ (tab_cons qa_Clash ⟨C_Clash, rfl, xC_Clash, (kit_own qk_Orphan qj_Orphan qs_Clash_Orphan (fun h => absurd h (by rw [qz_Clash_Orphan]; exact Bool.false_ne_true)))⟩ (tab_cons qa_NoPart ⟨C_NoPart, rfl, xC_NoPart, (kit_own qk_Orphan qj_Orphan qs_NoPart_Orphan (fun h => absurd h (by rw [qz_NoPart_Orphan]; exact Bool.false_ne_true)))⟩ (tab_cons qa_NoName ⟨C_NoName, rfl, xC_NoName, (kit_own qk_Orphan qj_Orphan qs_NoName_Orphan (fun h => absurd h (by rw [qz_NoName_Orphan]; exact Bool.false_ne_true)))⟩ (tab_cons qa_NoDrop ⟨C_NoDrop, rfl, xC_NoDrop, (kit_own qk_Orphan qj_Orphan qs_NoDrop_Orphan (fun h => absurd h (by rw [qz_NoDrop_Orphan]; exact Bool.false_ne_true)))⟩ (tab_cons qa_Fault ⟨C_Fault, rfl, xC_Fault, (kit_own qk_Orphan qj_Orphan qs_Fault_Orphan (fun h => absurd h (by rw [qz_Fault_Orphan]; exact Bool.false_ne_true)))⟩ (tab_cons qa_TooWide ⟨C_TooWide, rfl, xC_TooWide, (kit_own qk_Orphan qj_Orphan qs_TooWide_Orphan (fun h => absurd h (by rw [qz_TooWide_Orphan]; exact Bool.false_ne_true)))⟩ (tab_cons qa_NoRow ⟨C_NoRow, rfl, xC_NoRow, (kit_own qk_Orphan qj_Orphan qs_NoRow_Orphan (fun h => absurd h (by rw [qz_NoRow_Orphan]; exact Bool.false_ne_true)))⟩ tab_nil))))))))))))))⟩⟩⟩
  have xi_TooMany : ExIC K mg "TooMany" isx_TooMany := ⟨⟨C_TooMany, PySem.W.mg_of X G qa_TooMany, ⟨(tab_cons qa_HouseError ⟨C_HouseError, rfl, xC_HouseError, (kit_own qk_TooMany qj_TooMany qs_HouseError_TooMany (fun h => absurd h (by rw [qz_HouseError_TooMany]; exact Bool.false_ne_true)))⟩ (tab_cons qa_NoExpr ⟨C_NoExpr, rfl, xC_NoExpr, (kit_own qk_TooMany qj_TooMany qs_NoExpr_TooMany (fun h => absurd h (by rw [qz_NoExpr_TooMany]; exact Bool.false_ne_true)))⟩ (tab_cons qa_NoText ⟨C_NoText, rfl, xC_NoText, (kit_own qk_TooMany qj_TooMany qs_NoText_TooMany (fun h => absurd h (by rw [qz_NoText_TooMany]; exact Bool.false_ne_true)))⟩ (tab_cons qa_TooMany ⟨C_TooMany, rfl, xC_TooMany, (kit_own qk_TooMany qj_TooMany qs_TooMany_TooMany (fun _ => rfl))⟩ (tab_cons qa_Twice ⟨C_Twice, rfl, xC_Twice, (kit_own qk_TooMany qj_TooMany qs_Twice_TooMany (fun h => absurd h (by rw [qz_Twice_TooMany]; exact Bool.false_ne_true)))⟩ (tab_cons qa_Double ⟨C_Double, rfl, xC_Double, (kit_own qk_TooMany qj_TooMany qs_Double_TooMany (fun h => absurd h (by rw [qz_Double_TooMany]; exact Bool.false_ne_true)))⟩ (tab_cons qa_Orphan ⟨C_Orphan, rfl, xC_Orphan, (kit_own qk_TooMany qj_TooMany qs_Orphan_TooMany (fun h => absurd h (by rw [qz_Orphan_TooMany]; exact Bool.false_ne_true)))⟩ (tab_cons qa_Clash ⟨C_Clash, rfl, xC_Clash, (kit_own qk_TooMany qj_TooMany qs_Clash_TooMany (fun h => absurd h (by rw [qz_Clash_TooMany]; exact Bool.false_ne_true)))⟩ (tab_cons qa_NoPart ⟨C_NoPart, rfl, xC_NoPart, (kit_own qk_TooMany qj_TooMany qs_NoPart_TooMany (fun h => absurd h (by rw [qz_NoPart_TooMany]; exact Bool.false_ne_true)))⟩ (tab_cons qa_NoName ⟨C_NoName, rfl, xC_NoName, (kit_own qk_TooMany qj_TooMany qs_NoName_TooMany (fun h => absurd h (by rw [qz_NoName_TooMany]; exact Bool.false_ne_true)))⟩ (tab_cons qa_NoDrop ⟨C_NoDrop, rfl, xC_NoDrop, (kit_own qk_TooMany qj_TooMany qs_NoDrop_TooMany (fun h => absurd h (by rw [qz_NoDrop_TooMany]; exact Bool.false_ne_true)))⟩ (tab_cons qa_Fault ⟨C_Fault, rfl, xC_Fault, (kit_own qk_TooMany qj_TooMany qs_Fault_TooMany (fun h => absurd h (by rw [qz_Fault_TooMany]; exact Bool.false_ne_true)))⟩ (tab_cons qa_TooWide ⟨C_TooWide, rfl, xC_TooWide, (kit_own qk_TooMany qj_TooMany qs_TooWide_TooMany (fun h => absurd h (by rw [qz_TooWide_TooMany]; exact Bool.false_ne_true)))⟩ (tab_cons qa_NoRow ⟨C_NoRow, rfl, xC_NoRow, (kit_own qk_TooMany qj_TooMany qs_NoRow_TooMany (fun h => absurd h (by rw [qz_NoRow_TooMany]; exact Bool.false_ne_true)))⟩ tab_nil))))))))))))))⟩⟩⟩
  have xi_TooWide : ExIC K mg "TooWide" isx_TooWide := ⟨⟨C_TooWide, PySem.W.mg_of X G qa_TooWide, ⟨(tab_cons qa_HouseError ⟨C_HouseError, rfl, xC_HouseError, (kit_own qk_TooWide qj_TooWide qs_HouseError_TooWide (fun h => absurd h (by rw [qz_HouseError_TooWide]; exact Bool.false_ne_true)))⟩ (tab_cons qa_NoExpr ⟨C_NoExpr, rfl, xC_NoExpr, (kit_own qk_TooWide qj_TooWide qs_NoExpr_TooWide (fun h => absurd h (by rw [qz_NoExpr_TooWide]; exact Bool.false_ne_true)))⟩ (tab_cons qa_NoText ⟨C_NoText, rfl, xC_NoText, (kit_own qk_TooWide qj_TooWide qs_NoText_TooWide (fun h => absurd h (by rw [qz_NoText_TooWide]; exact Bool.false_ne_true)))⟩ (tab_cons qa_TooMany ⟨C_TooMany, rfl, xC_TooMany, (kit_own qk_TooWide qj_TooWide qs_TooMany_TooWide (fun h => absurd h (by rw [qz_TooMany_TooWide]; exact Bool.false_ne_true)))⟩ (tab_cons qa_Twice ⟨C_Twice, rfl, xC_Twice, (kit_own qk_TooWide qj_TooWide qs_Twice_TooWide (fun h => absurd h (by rw [qz_Twice_TooWide]; exact Bool.false_ne_true)))⟩ (tab_cons qa_Double ⟨C_Double, rfl, xC_Double, (kit_own qk_TooWide qj_TooWide qs_Double_TooWide (fun h => absurd h (by rw [qz_Double_TooWide]; exact Bool.false_ne_true)))⟩ (tab_cons qa_Orphan ⟨C_Orphan, rfl, xC_Orphan, (kit_own qk_TooWide qj_TooWide qs_Orphan_TooWide (fun h => absurd h (by rw [qz_Orphan_TooWide]; exact Bool.false_ne_true)))⟩ (tab_cons qa_Clash ⟨C_Clash, rfl, xC_Clash, (kit_own qk_TooWide qj_TooWide qs_Clash_TooWide (fun h => absurd h (by rw [qz_Clash_TooWide]; exact Bool.false_ne_true)))⟩ (tab_cons qa_NoPart ⟨C_NoPart, rfl, xC_NoPart, (kit_own qk_TooWide qj_TooWide qs_NoPart_TooWide (fun h => absurd h (by rw [qz_NoPart_TooWide]; exact Bool.false_ne_true)))⟩ (tab_cons qa_NoName ⟨C_NoName, rfl, xC_NoName, (kit_own qk_TooWide qj_TooWide qs_NoName_TooWide (fun h => absurd h (by rw [qz_NoName_TooWide]; exact Bool.false_ne_true)))⟩ (tab_cons qa_NoDrop ⟨C_NoDrop, rfl, xC_NoDrop, (kit_own qk_TooWide qj_TooWide qs_NoDrop_TooWide (fun h => absurd h (by rw [qz_NoDrop_TooWide]; exact Bool.false_ne_true)))⟩ (tab_cons qa_Fault ⟨C_Fault, rfl, xC_Fault, (kit_own qk_TooWide qj_TooWide qs_Fault_TooWide (fun h => absurd h (by rw [qz_Fault_TooWide]; exact Bool.false_ne_true)))⟩ (tab_cons qa_TooWide ⟨C_TooWide, rfl, xC_TooWide, (kit_own qk_TooWide qj_TooWide qs_TooWide_TooWide (fun _ => rfl))⟩ (tab_cons qa_NoRow ⟨C_NoRow, rfl, xC_NoRow, (kit_own qk_TooWide qj_TooWide qs_NoRow_TooWide (fun h => absurd h (by rw [qz_NoRow_TooWide]; exact Bool.false_ne_true)))⟩ tab_nil))))))))))))))⟩⟩⟩
  have xi_Twice : ExIC K mg "Twice" isx_Twice := ⟨⟨C_Twice, PySem.W.mg_of X G qa_Twice, ⟨(tab_cons qa_HouseError ⟨C_HouseError, rfl, xC_HouseError, (kit_own qk_Twice qj_Twice qs_HouseError_Twice (fun h => absurd h (by rw [qz_HouseError_Twice]; exact Bool.false_ne_true)))⟩ (tab_cons qa_NoExpr ⟨C_NoExpr, rfl, xC_NoExpr, (kit_own qk_Twice qj_Twice qs_NoExpr_Twice (fun h => absurd h (by rw [qz_NoExpr_Twice]; exact Bool.false_ne_true)))⟩ (tab_cons qa_NoText ⟨C_NoText, rfl, xC_NoText, (kit_own qk_Twice qj_Twice qs_NoText_Twice (fun h => absurd h (by rw [qz_NoText_Twice]; exact Bool.false_ne_true)))⟩ (tab_cons qa_TooMany ⟨C_TooMany, rfl, xC_TooMany, (kit_own qk_Twice qj_Twice qs_TooMany_Twice (fun h => absurd h (by rw [qz_TooMany_Twice]; exact Bool.false_ne_true)))⟩ (tab_cons qa_Twice ⟨C_Twice, rfl, xC_Twice, (kit_own qk_Twice qj_Twice qs_Twice_Twice (fun _ => rfl))⟩ (tab_cons qa_Double ⟨C_Double, rfl, xC_Double, (kit_own qk_Twice qj_Twice qs_Double_Twice (fun h => absurd h (by rw [qz_Double_Twice]; exact Bool.false_ne_true)))⟩ (tab_cons qa_Orphan ⟨C_Orphan, rfl, xC_Orphan, (kit_own qk_Twice qj_Twice qs_Orphan_Twice (fun h => absurd h (by rw [qz_Orphan_Twice]; exact Bool.false_ne_true)))⟩ (tab_cons qa_Clash ⟨C_Clash, rfl, xC_Clash, (kit_own qk_Twice qj_Twice qs_Clash_Twice (fun h => absurd h (by rw [qz_Clash_Twice]; exact Bool.false_ne_true)))⟩ (tab_cons qa_NoPart ⟨C_NoPart, rfl, xC_NoPart, (kit_own qk_Twice qj_Twice qs_NoPart_Twice (fun h => absurd h (by rw [qz_NoPart_Twice]; exact Bool.false_ne_true)))⟩ (tab_cons qa_NoName ⟨C_NoName, rfl, xC_NoName, (kit_own qk_Twice qj_Twice qs_NoName_Twice (fun h => absurd h (by rw [qz_NoName_Twice]; exact Bool.false_ne_true)))⟩ (tab_cons qa_NoDrop ⟨C_NoDrop, rfl, xC_NoDrop, (kit_own qk_Twice qj_Twice qs_NoDrop_Twice (fun h => absurd h (by rw [qz_NoDrop_Twice]; exact Bool.false_ne_true)))⟩ (tab_cons qa_Fault ⟨C_Fault, rfl, xC_Fault, (kit_own qk_Twice qj_Twice qs_Fault_Twice (fun h => absurd h (by rw [qz_Fault_Twice]; exact Bool.false_ne_true)))⟩ (tab_cons qa_TooWide ⟨C_TooWide, rfl, xC_TooWide, (kit_own qk_Twice qj_Twice qs_TooWide_Twice (fun h => absurd h (by rw [qz_TooWide_Twice]; exact Bool.false_ne_true)))⟩ (tab_cons qa_NoRow ⟨C_NoRow, rfl, xC_NoRow, (kit_own qk_Twice qj_Twice qs_NoRow_Twice (fun h => absurd h (by rw [qz_NoRow_Twice]; exact Bool.false_ne_true)))⟩ tab_nil))))))))))))))⟩⟩⟩
  have xi_ValueError : ExI K (.type "ValueError") isx_ValueError := ⟨(tab_cons qa_HouseError ⟨C_HouseError, rfl, xC_HouseError, (kit_bty rfl qv_HouseError)⟩ (tab_cons qa_NoExpr ⟨C_NoExpr, rfl, xC_NoExpr, (kit_bty rfl qv_NoExpr)⟩ (tab_cons qa_NoText ⟨C_NoText, rfl, xC_NoText, (kit_bty rfl qv_NoText)⟩ (tab_cons qa_TooMany ⟨C_TooMany, rfl, xC_TooMany, (kit_bty rfl qv_TooMany)⟩ (tab_cons qa_Twice ⟨C_Twice, rfl, xC_Twice, (kit_bty rfl qv_Twice)⟩ (tab_cons qa_Double ⟨C_Double, rfl, xC_Double, (kit_bty rfl qv_Double)⟩ (tab_cons qa_Orphan ⟨C_Orphan, rfl, xC_Orphan, (kit_bty rfl qv_Orphan)⟩ (tab_cons qa_Clash ⟨C_Clash, rfl, xC_Clash, (kit_bty rfl qv_Clash)⟩ (tab_cons qa_NoPart ⟨C_NoPart, rfl, xC_NoPart, (kit_bty rfl qv_NoPart)⟩ (tab_cons qa_NoName ⟨C_NoName, rfl, xC_NoName, (kit_bty rfl qv_NoName)⟩ (tab_cons qa_NoDrop ⟨C_NoDrop, rfl, xC_NoDrop, (kit_bty rfl qv_NoDrop)⟩ (tab_cons qa_Fault ⟨C_Fault, rfl, xC_Fault, (kit_bty rfl qv_Fault)⟩ (tab_cons qa_TooWide ⟨C_TooWide, rfl, xC_TooWide, (kit_bty rfl qv_TooWide)⟩ (tab_cons qa_NoRow ⟨C_NoRow, rfl, xC_NoRow, (kit_bty rfl qv_NoRow)⟩ tab_nil))))))))))))))⟩
  have xf_address : ExF K "address" exf_address := ⟨tabn_of (tabn_cons qa_NoPart ⟨C_NoPart, rfl, ⟨ga_NoPart, qn_NoPart___getattr__, xd_NoPart, qc_NoPart⟩, qn_NoPart_address⟩ (tabn_cons qa_NoDrop ⟨C_NoDrop, rfl, ⟨ga_NoDrop, qn_NoDrop___getattr__, xd_NoDrop, qc_NoDrop⟩, qn_NoDrop_address⟩ tabn_nil))⟩
  have xf_at : ExF K "at" exf_at := ⟨tabn_of (tabn_cons qa_NoText ⟨C_NoText, rfl, ⟨ga_NoText, qn_NoText___getattr__, xd_NoText, qc_NoText⟩, qn_NoText_at⟩ (tabn_cons qa_TooMany ⟨C_TooMany, rfl, ⟨ga_TooMany, qn_TooMany___getattr__, xd_TooMany, qc_TooMany⟩, qn_TooMany_at⟩ (tabn_cons qa_Twice ⟨C_Twice, rfl, ⟨ga_Twice, qn_Twice___getattr__, xd_Twice, qc_Twice⟩, qn_Twice_at⟩ (tabn_cons qa_Double ⟨C_Double, rfl, ⟨ga_Double, qn_Double___getattr__, xd_Double, qc_Double⟩, qn_Double_at⟩ (tabn_cons qa_Orphan ⟨C_Orphan, rfl, ⟨ga_Orphan, qn_Orphan___getattr__, xd_Orphan, qc_Orphan⟩, qn_Orphan_at⟩ (tabn_cons qa_Clash ⟨C_Clash, rfl, ⟨ga_Clash, qn_Clash___getattr__, xd_Clash, qc_Clash⟩, qn_Clash_at⟩ (tabn_cons qa_NoRow ⟨C_NoRow, rfl, ⟨ga_NoRow, qn_NoRow___getattr__, xd_NoRow, qc_NoRow⟩, qn_NoRow_at⟩ tabn_nil)))))))⟩
  have xf_name : ExF K "name" exf_name := ⟨tabn_of (tabn_cons qa_NoName ⟨C_NoName, rfl, ⟨ga_NoName, qn_NoName___getattr__, xd_NoName, qc_NoName⟩, qn_NoName_name⟩ (tabn_cons qa_Fault ⟨C_Fault, rfl, ⟨ga_Fault, qn_Fault___getattr__, xd_Fault, qc_Fault⟩, qn_Fault_name⟩ tabn_nil))⟩
  have xf_trail : ExF K "trail" exf_trail := ⟨tabn_of (tabn_cons qa_Fault ⟨C_Fault, rfl, ⟨ga_Fault, qn_Fault___getattr__, xd_Fault, qc_Fault⟩, qn_Fault_trail⟩ tabn_nil)⟩
  have xf_whose : ExF K "whose" exf_whose := ⟨tabn_of (tabn_cons qa_Fault ⟨C_Fault, rfl, ⟨ga_Fault, qn_Fault___getattr__, xd_Fault, qc_Fault⟩, qn_Fault_whose⟩ tabn_nil)⟩
  have xf_word : ExF K "word" exf_word := ⟨tabn_of (tabn_cons qa_Fault ⟨C_Fault, rfl, ⟨ga_Fault, qn_Fault___getattr__, xd_Fault, qc_Fault⟩, qn_Fault_word⟩ tabn_nil)⟩
  have cx_NoText : ClsX K "NoText" C_NoText := ⟨qa_NoText, ⟨⟨_, _, _, _, _, _, _, _, _, _, _, _, _, _, _, lx_NoText, rx_NoText⟩, sa_NoText, xd_NoText, qj_NoText, kc_NoText⟩⟩
  have fx_NoText_at : FldX K "NoText" "at" := ⟨⟨C_NoText, cx_NoText, qn_NoText_at⟩⟩
  have cx_TooMany : ClsX K "TooMany" C_TooMany := ⟨qa_TooMany, ⟨⟨_, _, _, _, _, _, _, _, _, _, _, _, _, _, _, lx_TooMany, rx_TooMany⟩, sa_TooMany, xd_TooMany, qj_TooMany, kc_TooMany⟩⟩
  have fx_TooMany_at : FldX K "TooMany" "at" := ⟨⟨C_TooMany, cx_TooMany, qn_TooMany_at⟩⟩
  have cx_Twice : ClsX K "Twice" C_Twice := ⟨qa_Twice, ⟨⟨_, _, _, _, _, _, _, _, _, _, _, _, _, _, _, lx_Twice, rx_Twice⟩, sa_Twice, xd_Twice, qj_Twice, kc_Twice⟩⟩
  have fx_Twice_at : FldX K "Twice" "at" := ⟨⟨C_Twice, cx_Twice, qn_Twice_at⟩⟩
  have cx_Double : ClsX K "Double" C_Double := ⟨qa_Double, ⟨⟨_, _, _, _, _, _, _, _, _, _, _, _, _, _, _, lx_Double, rx_Double⟩, sa_Double, xd_Double, qj_Double, kc_Double⟩⟩
  have fx_Double_at : FldX K "Double" "at" := ⟨⟨C_Double, cx_Double, qn_Double_at⟩⟩
  have cx_Orphan : ClsX K "Orphan" C_Orphan := ⟨qa_Orphan, ⟨⟨_, _, _, _, _, _, _, _, _, _, _, _, _, _, _, lx_Orphan, rx_Orphan⟩, sa_Orphan, xd_Orphan, qj_Orphan, kc_Orphan⟩⟩
  have fx_Orphan_at : FldX K "Orphan" "at" := ⟨⟨C_Orphan, cx_Orphan, qn_Orphan_at⟩⟩
  have cx_Clash : ClsX K "Clash" C_Clash := ⟨qa_Clash, ⟨⟨_, _, _, _, _, _, _, _, _, _, _, _, _, _, _, lx_Clash, rx_Clash⟩, sa_Clash, xd_Clash, qj_Clash, kc_Clash⟩⟩
  have fx_Clash_at : FldX K "Clash" "at" := ⟨⟨C_Clash, cx_Clash, qn_Clash_at⟩⟩
  have cx_NoRow : ClsX K "NoRow" C_NoRow := ⟨qa_NoRow, ⟨⟨_, _, _, _, _, _, _, _, _, _, _, _, _, _, _, lx_NoRow, rx_NoRow⟩, sa_NoRow, xd_NoRow, qj_NoRow, kc_NoRow⟩⟩
  have fx_NoRow_at : FldX K "NoRow" "at" := ⟨⟨C_NoRow, cx_NoRow, qn_NoRow_at⟩⟩
  have cx_NoPart : ClsX K "NoPart" C_NoPart := ⟨qa_NoPart, ⟨⟨_, _, _, _, _, _, _, _, _, _, _, _, _, _, _, lx_NoPart, rx_NoPart⟩, sa_NoPart, xd_NoPart, qj_NoPart, kc_NoPart⟩⟩
  have fx_NoPart_address : FldX K "NoPart" "address" := ⟨⟨C_NoPart, cx_NoPart, qn_NoPart_address⟩⟩
  have cx_NoDrop : ClsX K "NoDrop" C_NoDrop := ⟨qa_NoDrop, ⟨⟨_, _, _, _, _, _, _, _, _, _, _, _, _, _, _, lx_NoDrop, rx_NoDrop⟩, sa_NoDrop, xd_NoDrop, qj_NoDrop, kc_NoDrop⟩⟩
  have fx_NoDrop_address : FldX K "NoDrop" "address" := ⟨⟨C_NoDrop, cx_NoDrop, qn_NoDrop_address⟩⟩
  have cx_NoName : ClsX K "NoName" C_NoName := ⟨qa_NoName, ⟨⟨_, _, _, _, _, _, _, _, _, _, _, _, _, _, _, lx_NoName, rx_NoName⟩, sa_NoName, xd_NoName, qj_NoName, kc_NoName⟩⟩
  have fx_NoName_name : FldX K "NoName" "name" := ⟨⟨C_NoName, cx_NoName, qn_NoName_name⟩⟩
  have cx_Fault : ClsX K "Fault" C_Fault := ⟨qa_Fault, ⟨⟨_, _, _, _, _, _, _, _, _, _, _, _, _, _, _, lx_Fault, rx_Fault⟩, sa_Fault, xd_Fault, qj_Fault, kc_Fault⟩⟩
  have fx_Fault_word : FldX K "Fault" "word" := ⟨⟨C_Fault, cx_Fault, qn_Fault_word⟩⟩
  have fx_Fault_trail : FldX K "Fault" "trail" := ⟨⟨C_Fault, cx_Fault, qn_Fault_trail⟩⟩
  have fx_Fault_whose : FldX K "Fault" "whose" := ⟨⟨C_Fault, cx_Fault, qn_Fault_whose⟩⟩
  have fx_Fault_name : FldX K "Fault" "name" := ⟨⟨C_Fault, cx_Fault, qn_Fault_name⟩⟩
  have F0 := fun_mk (st := s_NoText___init) l0 c0 k0
  have b0 := F0.binds (ps := ["self", "at"]) fun _ _ _ _ _ _ us hl => match us, hl with | [_, _], _ => rfl
  have F1 := fun_mk (st := s_TooMany___init) l1 c1 k1
  have b1 := F1.binds (ps := ["self", "at"]) fun _ _ _ _ _ _ us hl => match us, hl with | [_, _], _ => rfl
  have F2 := fun_mk (st := s_Twice___init) l2 c2 k2
  have b2 := F2.binds (ps := ["self", "at"]) fun _ _ _ _ _ _ us hl => match us, hl with | [_, _], _ => rfl
  have F3 := fun_mk (st := s_Double___init) l3 c3 k3
  have b3 := F3.binds (ps := ["self", "at"]) fun _ _ _ _ _ _ us hl => match us, hl with | [_, _], _ => rfl
  have F4 := fun_mk (st := s_Orphan___init) l4 c4 k4
  have b4 := F4.binds (ps := ["self", "at"]) fun _ _ _ _ _ _ us hl => match us, hl with | [_, _], _ => rfl
  have F5 := fun_mk (st := s_Clash___init) l5 c5 k5
  have b5 := F5.binds (ps := ["self", "at"]) fun _ _ _ _ _ _ us hl => match us, hl with | [_, _], _ => rfl
  have F6 := fun_mk (st := s_NoRow___init) l6 c6 k6
  have b6 := F6.binds (ps := ["self", "at"]) fun _ _ _ _ _ _ us hl => match us, hl with | [_, _], _ => rfl
  have F7 := fun_mk (st := s_NoPart___init) l7 c7 k7
  have b7 := F7.binds (ps := ["self", "address"]) fun _ _ _ _ _ _ us hl => match us, hl with | [_, _], _ => rfl
  have F8 := fun_mk (st := s_NoDrop___init) l8 c8 k8
  have b8 := F8.binds (ps := ["self", "address"]) fun _ _ _ _ _ _ us hl => match us, hl with | [_, _], _ => rfl
  have F9 := fun_mk (st := s_NoName___init) l9 c9 k9
  have b9 := F9.binds (ps := ["self", "name"]) fun _ _ _ _ _ _ us hl => match us, hl with | [_, _], _ => rfl
  have F10 := fun_mk (st := s_Fault___init) l10 c10 k10
  have b10 := F10.binds (ps := ["self", "word", "trail", "whose", "name"]) fun _ _ _ _ _ _ us hl => match us, hl with | [_, _, _, _, _], _ => rfl
  have F11 := fun_mk (st := s_law_cell) l11 c11 k11
  have b11 := F11.binds (ps := ["_law_script", "_law_k"]) fun _ _ _ _ _ _ us hl => match us, hl with | [_, _], _ => rfl
  have F12 := fun_mk (st := s_law_sub) l12 c12 k12
  have b12 := F12.binds (ps := ["_law_cell_here", "_law_j"]) fun _ _ _ _ _ _ us hl => match us, hl with | [_, _], _ => rfl
  have F13 := fun_mk (st := s_law_pick) l13 c13 k13
  have b13 := F13.binds (ps := ["_law_cell_here", "_law_k", "_law_many"]) fun _ _ _ _ _ _ us hl => match us, hl with | [_, _, _], _ => rfl
  have F14 := fun_mk (st := s_law_number) l14 c14 k14
  have b14 := F14.binds (ps := ["_law_cell_here", "_law_far"]) fun _ _ _ _ _ _ us hl => match us, hl with | [_, _], _ => rfl
  have F15 := fun_mk (st := s_law_name) l15 c15 k15
  have b15 := F15.binds (ps := ["_law_cell_here"]) fun _ _ _ _ _ _ us hl => match us, hl with | [_], _ => rfl
  have F16 := fun_mk (st := s_law_flags) l16 c16 k16
  have b16 := F16.binds (ps := ["_law_e"]) fun _ _ _ _ _ _ us hl => match us, hl with | [_], _ => rfl
  have F17 := fun_mk (st := s_law_placed) l17 c17 k17
  have b17 := F17.binds (ps := ["_law_way", "_law_at"]) fun _ _ _ _ _ _ us hl => match us, hl with | [_, _], _ => rfl
  have F18 := fun_mk (st := s_law_worded) l18 c18 k18
  have b18 := F18.binds (ps := ["_law_way", "_law_word"]) fun _ _ _ _ _ _ us hl => match us, hl with | [_, _], _ => rfl
  have F19 := fun_mk (st := s_law_keeps) l19 c19 k19
  have b19 := F19.binds (ps := ["_law_e", "_law_way", "_law_at", "_law_word"]) fun _ _ _ _ _ _ us hl => match us, hl with | [_, _, _, _], _ => rfl
  have F20 := fun_mk (st := s_law_fault) l20 c20 k20
  have b20 := F20.binds (ps := ["_law_cell_here"]) fun _ _ _ _ _ _ us hl => match us, hl with | [_], _ => rfl
  have F21 := fun_mk (st := s_law) l21 c21 k21
  have b21 := F21.binds (ps := ["_law_script"]) fun _ _ _ _ _ _ us hl => match us, hl with | [_], _ => rfl
  have m_ValueError := PySem.W.mg_none_of X G z_ValueError
  have m_bool := PySem.W.mg_none_of X G z_bool
  have m_int := PySem.W.mg_none_of X G z_int
  have m_isinstance := PySem.W.mg_none_of X G z_isinstance
  have m_len := PySem.W.mg_none_of X G z_len
  have m_list := PySem.W.mg_none_of X G z_list
  have m_max := PySem.W.mg_none_of X G z_max
  have m_min := PySem.W.mg_none_of X G z_min
  have m_range := PySem.W.mg_none_of X G z_range
  have m_str := PySem.W.mg_none_of X G z_str
  refine ⟨PySem.W.fnOf "law" "law" (defArgs s_law) (defBody s_law) (defScope s_law) .none kV21 dc21 pm21 an21 cd21 ct21, fun s u => .of_eq rfl, fun base _ _ => ?_⟩
  have kn_NoText_init : MkrX P w K mg base "NoText" 1 (sp_NoText_init K) := ⟨⟨C_NoText, _, _, _, PySem.W.mg_of X G qa_NoText, cx_NoText, m0_NoText, tf0, ok_NoText_init F0 fx_NoText_at xm_HouseError, b0⟩⟩
  have kn_TooMany_init : MkrX P w K mg base "TooMany" 1 (sp_TooMany_init K) := ⟨⟨C_TooMany, _, _, _, PySem.W.mg_of X G qa_TooMany, cx_TooMany, m1_TooMany, tf1, ok_TooMany_init F1 fx_TooMany_at xm_HouseError, b1⟩⟩
  have kn_Twice_init : MkrX P w K mg base "Twice" 1 (sp_Twice_init K) := ⟨⟨C_Twice, _, _, _, PySem.W.mg_of X G qa_Twice, cx_Twice, m2_Twice, tf2, ok_Twice_init F2 fx_Twice_at xm_HouseError, b2⟩⟩
  have kn_Double_init : MkrX P w K mg base "Double" 1 (sp_Double_init K) := ⟨⟨C_Double, _, _, _, PySem.W.mg_of X G qa_Double, cx_Double, m3_Double, tf3, ok_Double_init F3 fx_Double_at xm_HouseError, b3⟩⟩
  have kn_Orphan_init : MkrX P w K mg base "Orphan" 1 (sp_Orphan_init K) := ⟨⟨C_Orphan, _, _, _, PySem.W.mg_of X G qa_Orphan, cx_Orphan, m4_Orphan, tf4, ok_Orphan_init F4 fx_Orphan_at xm_HouseError, b4⟩⟩
  have kn_Clash_init : MkrX P w K mg base "Clash" 1 (sp_Clash_init K) := ⟨⟨C_Clash, _, _, _, PySem.W.mg_of X G qa_Clash, cx_Clash, m5_Clash, tf5, ok_Clash_init F5 fx_Clash_at xm_HouseError, b5⟩⟩
  have kn_NoRow_init : MkrX P w K mg base "NoRow" 1 (sp_NoRow_init K) := ⟨⟨C_NoRow, _, _, _, PySem.W.mg_of X G qa_NoRow, cx_NoRow, m6_NoRow, tf6, ok_NoRow_init F6 fx_NoRow_at xm_HouseError, b6⟩⟩
  have kn_NoPart_init : MkrX P w K mg base "NoPart" 1 (sp_NoPart_init K) := ⟨⟨C_NoPart, _, _, _, PySem.W.mg_of X G qa_NoPart, cx_NoPart, m7_NoPart, tf7, ok_NoPart_init F7 fx_NoPart_address xm_HouseError, b7⟩⟩
  have kn_NoDrop_init : MkrX P w K mg base "NoDrop" 1 (sp_NoDrop_init K) := ⟨⟨C_NoDrop, _, _, _, PySem.W.mg_of X G qa_NoDrop, cx_NoDrop, m8_NoDrop, tf8, ok_NoDrop_init F8 fx_NoDrop_address xm_HouseError, b8⟩⟩
  have kn_NoName_init : MkrX P w K mg base "NoName" 1 (sp_NoName_init K) := ⟨⟨C_NoName, _, _, _, PySem.W.mg_of X G qa_NoName, cx_NoName, m9_NoName, tf9, ok_NoName_init F9 fx_NoName_name xm_HouseError, b9⟩⟩
  have kn_Fault_init : MkrX P w K mg base "Fault" 1 (sp_Fault_init K) := ⟨⟨C_Fault, _, _, _, PySem.W.mg_of X G qa_Fault, cx_Fault, m10_Fault, tf10, ok_Fault_init F10 m_list fx_Fault_word fx_Fault_trail fx_Fault_whose fx_Fault_name xm_HouseError, b10⟩⟩
  have kn_cell : Kn P w K mg base "_law_cell" 1 (sp_cell K) := ⟨⟨_, _, _, ok_cell F11 m_len, PySem.W.mg_of X G a11, k11, b11⟩⟩
  have kn_sub : Kn P w K mg base "_law_sub" 1 (sp_sub K) := ⟨⟨_, _, _, ok_sub F12, PySem.W.mg_of X G a12, k12, b12⟩⟩
  have kn_pick : Kn P w K mg base "_law_pick" 1 (sp_pick K) := ⟨⟨_, _, _, ok_pick F13, PySem.W.mg_of X G a13, k13, b13⟩⟩
  have kn_number : Kn P w K mg base "_law_number" 1 (sp_number K) := ⟨⟨_, _, _, ok_number F14, PySem.W.mg_of X G a14, k14, b14⟩⟩
  have kn_name : Kn P w K mg base "_law_name" 2 (sp_name K) := ⟨⟨_, _, _, ok_name F15 m_range kn_pick, PySem.W.mg_of X G a15, k15, b15⟩⟩
  have kn_flags : Kn P w K mg base "_law_flags" 1 (sp_flags K) := ⟨⟨_, _, _, ok_flags F16 m_isinstance xi_Clash xi_Double xi_Fault xi_NoDrop xi_NoExpr xi_NoName xi_NoPart xi_NoRow xi_NoText xi_Orphan xi_TooMany xi_TooWide xi_Twice, PySem.W.mg_of X G a16, k16, b16⟩⟩
  have kn_placed : Kn P w K mg base "_law_placed" 3 (sp_placed K) := ⟨⟨_, _, _, ok_placed F17 kn_Clash_init kn_Double_init kn_NoRow_init kn_NoText_init kn_Orphan_init kn_TooMany_init kn_Twice_init, PySem.W.mg_of X G a17, k17, b17⟩⟩
  have kn_worded : Kn P w K mg base "_law_worded" 3 (sp_worded K) := ⟨⟨_, _, _, ok_worded F18 x_HouseError x_NoExpr x_TooWide kn_NoDrop_init kn_NoName_init kn_NoPart_init, PySem.W.mg_of X G a18, k18, b18⟩⟩
  have kn_keeps : Kn P w K mg base "_law_keeps" 1 (sp_keeps K) := ⟨⟨_, _, _, ok_keeps F19 m_bool m_int m_isinstance m_str xf_address xf_at xf_name, PySem.W.mg_of X G a19, k19, b19⟩⟩
  have kn_fault : Kn P w K mg base "_law_fault" 3 (sp_fault K) := ⟨⟨_, _, _, ok_fault F20 m_ValueError m_isinstance m_list m_range kn_Fault_init kn_flags kn_name kn_pick kn_sub xi_HouseError xi_ValueError xf_name xf_trail xf_whose xf_word, PySem.W.mg_of X G a20, k20, b20⟩⟩
  exact ok_law F21 m_ValueError m_isinstance m_len m_max m_min m_range kn_cell kn_fault kn_flags kn_keeps kn_name kn_number kn_pick kn_placed kn_sub kn_worded xi_HouseError xi_ValueError
theorem walk {l : PySem.W.OpenLaw} {q : Program} {loose : List Str} {XP : (Str → Option Value) → Heap → Prop} {YP : World → Heap → Prop} {d : DefRec} {K : Params → PySem.W.Frag} (hn : l.most = some 63) (hdf : d.params.defaults = [])
    (hY : ∀ (w : World) (h : Heap), YP w h → (K w.params).In h)
    (F : ∀ (w : World) (mg : Str → Option Value) (fa : Addr) (h : Heap), (K w.params).In h → h.Ns mainGlobals mg → mg d.name = some (.ref fa) →
      ∃ fd : FuncData, (∀ (s : Shared) (u : Value), BindsTo s fd ⟨[u], []⟩ [("_law_script", u)]) ∧ ∀ base : Heap, (K w.params).In base → base.Ns mainGlobals mg → FnOk l.prog w (K w.params) mg base (L2.CX l.prog w) 4 fa fd ["_law_script"] (sp_law (K w.params))) :
    PySem.W.WalkO q loose XP YP l.row.toRowW d [] (fun f vs => PySem.call f vs) :=
  L2.walk_of (n := 63) (k := 4) (x := "_law_script") (CX := fun w => L2.CX l.prog w) (sp := fun w => sp_law (K w.params)) hn (by decide) hdf ⟨rfl, by decide, by decide⟩ hY F (fun w H a ns hl _ hS => ⟨ns, H, fun _ _ h => h, .d (.scr hS) .nil, trivial, by
    show PostR _ _ _ _ _ (rsOf _ (lawF ns))
    rw [law_true ns hl]
    exact fun v G' H' _ hi => by
      cases hi
      rfl⟩) fun w H s e s' z => by
      obtain ⟨_, _, _, _, _, _, _, _, _, _, _, _, z⟩ := z
      exact z
end LawP
open PySem PySem.W PyProof.Rows in
set_option maxRecDepth 100000 in
set_option maxHeartbeats 0 in
theorem PySem.Challenge.cw_drawhouse_k16_refusals_apart_holds : PySem.Challenge.rw_drawhouse_k16_refusals_apart.Holds := by
  w_on; o_law; k_head; (case hw => w_witness2)
  k_fill
  refine LawP.walk (l := PySem.Challenge.rw_drawhouse_k16_refusals_apart) rfl rfl (fun w h Y => PySem.W.kIn_of Y) ?F
  case F =>
    intro w mg fa h KX G hmg
    refine' LawP.all_mk KX G hmg ?qa_NoText ?m0_NoText ?tf0 ?l0 ?c0 ?k0 ?qa_TooMany ?m1_TooMany ?tf1 ?l1 ?c1 ?k1 ?qa_Twice ?m2_Twice ?tf2 ?l2 ?c2 ?k2 ?qa_Double ?m3_Double ?tf3 ?l3 ?c3 ?k3 ?qa_Orphan ?m4_Orphan ?tf4 ?l4 ?c4 ?k4 ?qa_Clash ?m5_Clash ?tf5 ?l5 ?c5 ?k5 ?qa_NoRow ?m6_NoRow ?tf6 ?l6 ?c6 ?k6 ?qa_NoPart ?m7_NoPart ?tf7 ?l7 ?c7 ?k7 ?qa_NoDrop ?m8_NoDrop ?tf8 ?l8 ?c8 ?k8 ?qa_NoName ?m9_NoName ?tf9 ?l9 ?c9 ?k9 ?qa_Fault ?m10_Fault ?tf10 ?l10 ?c10 ?k10 ?a11 ?l11 ?c11 ?k11 ?a12 ?l12 ?c12 ?k12 ?a13 ?l13 ?c13 ?k13 ?a14 ?l14 ?c14 ?k14 ?a15 ?l15 ?c15 ?k15 ?a16 ?l16 ?c16 ?k16 ?a17 ?l17 ?c17 ?k17 ?a18 ?l18 ?c18 ?k18 ?a19 ?l19 ?c19 ?k19 ?a20 ?l20 ?c20 ?k20 ?a21 ?l21 ?c21 ?k21 ?qa_HouseError ?xb_HouseError ?kc_HouseError ?xd_HouseError ?qj_HouseError ?qa_NoExpr ?xb_NoExpr ?kc_NoExpr ?xd_NoExpr ?qj_NoExpr ?qa_TooWide ?xb_TooWide ?kc_TooWide ?xd_TooWide ?qj_TooWide ?rd_HouseError ?sg_HouseError ?fc_HouseError ?ga_NoRow ?qn_NoRow___getattr__ ?qf_NoRow ?xd_NoRow ?qc_NoRow ?qg ?qh ?qi_NoRow ?qz_NoRow_Clash ?qk_Clash ?qj_Clash ?qs_NoRow_Clash ?ga_TooWide ?qn_TooWide___getattr__ ?qf_TooWide ?qc_TooWide ?qi_TooWide ?qz_TooWide_Clash ?qs_TooWide_Clash ?ga_Fault ?qn_Fault___getattr__ ?qf_Fault ?xd_Fault ?qc_Fault ?qi_Fault ?qz_Fault_Clash ?qs_Fault_Clash ?ga_NoDrop ?qn_NoDrop___getattr__ ?qf_NoDrop ?xd_NoDrop ?qc_NoDrop ?qi_NoDrop ?qz_NoDrop_Clash ?qs_NoDrop_Clash ?ga_NoName ?qn_NoName___getattr__ ?qf_NoName ?xd_NoName ?qc_NoName ?qi_NoName ?qz_NoName_Clash ?qs_NoName_Clash ?ga_NoPart ?qn_NoPart___getattr__ ?qf_NoPart ?xd_NoPart ?qc_NoPart ?qi_NoPart ?qz_NoPart_Clash ?qs_NoPart_Clash ?ga_Clash ?qn_Clash___getattr__ ?qf_Clash ?xd_Clash ?qc_Clash ?qi_Clash ?qs_Clash_Clash ?ga_Orphan ?qn_Orphan___getattr__ ?qf_Orphan ?xd_Orphan ?qc_Orphan ?qi_Orphan ?qz_Orphan_Clash ?qs_Orphan_Clash ?ga_Double ?qn_Double___getattr__ ?qf_Double ?xd_Double ?qc_Double ?qi_Double ?qz_Double_Clash ?qs_Double_Clash ?ga_Twice ?qn_Twice___getattr__ ?qf_Twice ?xd_Twice ?qc_Twice ?qi_Twice ?qz_Twice_Clash ?qs_Twice_Clash ?ga_TooMany ?qn_TooMany___getattr__ ?qf_TooMany ?xd_TooMany ?qc_TooMany ?qi_TooMany ?qz_TooMany_Clash ?qs_TooMany_Clash ?ga_NoText ?qn_NoText___getattr__ ?qf_NoText ?xd_NoText ?qc_NoText ?qi_NoText ?qz_NoText_Clash ?qs_NoText_Clash ?ga_NoExpr ?qn_NoExpr___getattr__ ?qf_NoExpr ?qc_NoExpr ?qi_NoExpr ?qz_NoExpr_Clash ?qs_NoExpr_Clash ?ga_HouseError ?qn_HouseError___getattr__ ?qf_HouseError ?qc_HouseError ?qi_HouseError ?qz_HouseError_Clash ?qs_HouseError_Clash ?qz_NoRow_Double ?qk_Double ?qj_Double ?qs_NoRow_Double ?qz_TooWide_Double ?qs_TooWide_Double ?qz_Fault_Double ?qs_Fault_Double ?qz_NoDrop_Double ?qs_NoDrop_Double ?qz_NoName_Double ?qs_NoName_Double ?qz_NoPart_Double ?qs_NoPart_Double ?qz_Clash_Double ?qs_Clash_Double ?qz_Orphan_Double ?qs_Orphan_Double ?qs_Double_Double ?qz_Twice_Double ?qs_Twice_Double ?qz_TooMany_Double ?qs_TooMany_Double ?qz_NoText_Double ?qs_NoText_Double ?qz_NoExpr_Double ?qs_NoExpr_Double ?qz_HouseError_Double ?qs_HouseError_Double ?qz_NoRow_Fault ?qk_Fault ?qj_Fault ?qs_NoRow_Fault ?qz_TooWide_Fault ?qs_TooWide_Fault ?qs_Fault_Fault ?qz_NoDrop_Fault ?qs_NoDrop_Fault ?qz_NoName_Fault ?qs_NoName_Fault ?qz_NoPart_Fault ?qs_NoPart_Fault ?qz_Clash_Fault ?qs_Clash_Fault ?qz_Orphan_Fault ?qs_Orphan_Fault ?qz_Double_Fault ?qs_Double_Fault ?qz_Twice_Fault ?qs_Twice_Fault ?qz_TooMany_Fault ?qs_TooMany_Fault ?qz_NoText_Fault ?qs_NoText_Fault ?qz_NoExpr_Fault ?qs_NoExpr_Fault ?qz_HouseError_Fault ?qs_HouseError_Fault ?qk_HouseError ?qs_NoRow_HouseError ?qs_TooWide_HouseError ?qs_Fault_HouseError ?qs_NoDrop_HouseError ?qs_NoName_HouseError ?qs_NoPart_HouseError ?qs_Clash_HouseError ?qs_Orphan_HouseError ?qs_Double_HouseError ?qs_Twice_HouseError ?qs_TooMany_HouseError ?qs_NoText_HouseError ?qs_NoExpr_HouseError ?qs_HouseError_HouseError ?qz_NoRow_NoDrop ?qk_NoDrop ?qj_NoDrop ?qs_NoRow_NoDrop ?qz_TooWide_NoDrop ?qs_TooWide_NoDrop ?qz_Fault_NoDrop ?qs_Fault_NoDrop ?qs_NoDrop_NoDrop ?qz_NoName_NoDrop ?qs_NoName_NoDrop ?qz_NoPart_NoDrop ?qs_NoPart_NoDrop ?qz_Clash_NoDrop ?qs_Clash_NoDrop ?qz_Orphan_NoDrop ?qs_Orphan_NoDrop ?qz_Double_NoDrop ?qs_Double_NoDrop ?qz_Twice_NoDrop ?qs_Twice_NoDrop ?qz_TooMany_NoDrop ?qs_TooMany_NoDrop ?qz_NoText_NoDrop ?qs_NoText_NoDrop ?qz_NoExpr_NoDrop ?qs_NoExpr_NoDrop ?qz_HouseError_NoDrop ?qs_HouseError_NoDrop ?qz_NoRow_NoExpr ?qk_NoExpr ?qs_NoRow_NoExpr ?qz_TooWide_NoExpr ?qs_TooWide_NoExpr ?qz_Fault_NoExpr ?qs_Fault_NoExpr ?qz_NoDrop_NoExpr ?qs_NoDrop_NoExpr ?qz_NoName_NoExpr ?qs_NoName_NoExpr ?qz_NoPart_NoExpr ?qs_NoPart_NoExpr ?qz_Clash_NoExpr ?qs_Clash_NoExpr ?qz_Orphan_NoExpr ?qs_Orphan_NoExpr ?qz_Double_NoExpr ?qs_Double_NoExpr ?qz_Twice_NoExpr ?qs_Twice_NoExpr ?qz_TooMany_NoExpr ?qs_TooMany_NoExpr ?qz_NoText_NoExpr ?qs_NoText_NoExpr ?qs_NoExpr_NoExpr ?qz_HouseError_NoExpr ?qs_HouseError_NoExpr ?qz_NoRow_NoName ?qk_NoName ?qj_NoName ?qs_NoRow_NoName ?qz_TooWide_NoName ?qs_TooWide_NoName ?qz_Fault_NoName ?qs_Fault_NoName ?qz_NoDrop_NoName ?qs_NoDrop_NoName ?qs_NoName_NoName ?qz_NoPart_NoName ?qs_NoPart_NoName ?qz_Clash_NoName ?qs_Clash_NoName ?qz_Orphan_NoName ?qs_Orphan_NoName ?qz_Double_NoName ?qs_Double_NoName ?qz_Twice_NoName ?qs_Twice_NoName ?qz_TooMany_NoName ?qs_TooMany_NoName ?qz_NoText_NoName ?qs_NoText_NoName ?qz_NoExpr_NoName ?qs_NoExpr_NoName ?qz_HouseError_NoName ?qs_HouseError_NoName ?qz_NoRow_NoPart ?qk_NoPart ?qj_NoPart ?qs_NoRow_NoPart ?qz_TooWide_NoPart ?qs_TooWide_NoPart ?qz_Fault_NoPart ?qs_Fault_NoPart ?qz_NoDrop_NoPart ?qs_NoDrop_NoPart ?qz_NoName_NoPart ?qs_NoName_NoPart ?qs_NoPart_NoPart ?qz_Clash_NoPart ?qs_Clash_NoPart ?qz_Orphan_NoPart ?qs_Orphan_NoPart ?qz_Double_NoPart ?qs_Double_NoPart ?qz_Twice_NoPart ?qs_Twice_NoPart ?qz_TooMany_NoPart ?qs_TooMany_NoPart ?qz_NoText_NoPart ?qs_NoText_NoPart ?qz_NoExpr_NoPart ?qs_NoExpr_NoPart ?qz_HouseError_NoPart ?qs_HouseError_NoPart ?qk_NoRow ?qj_NoRow ?qs_NoRow_NoRow ?qz_TooWide_NoRow ?qs_TooWide_NoRow ?qz_Fault_NoRow ?qs_Fault_NoRow ?qz_NoDrop_NoRow ?qs_NoDrop_NoRow ?qz_NoName_NoRow ?qs_NoName_NoRow ?qz_NoPart_NoRow ?qs_NoPart_NoRow ?qz_Clash_NoRow ?qs_Clash_NoRow ?qz_Orphan_NoRow ?qs_Orphan_NoRow ?qz_Double_NoRow ?qs_Double_NoRow ?qz_Twice_NoRow ?qs_Twice_NoRow ?qz_TooMany_NoRow ?qs_TooMany_NoRow ?qz_NoText_NoRow ?qs_NoText_NoRow ?qz_NoExpr_NoRow ?qs_NoExpr_NoRow ?qz_HouseError_NoRow ?qs_HouseError_NoRow ?qz_NoRow_NoText ?qk_NoText ?qj_NoText ?qs_NoRow_NoText ?qz_TooWide_NoText ?qs_TooWide_NoText ?qz_Fault_NoText ?qs_Fault_NoText ?qz_NoDrop_NoText ?qs_NoDrop_NoText ?qz_NoName_NoText ?qs_NoName_NoText ?qz_NoPart_NoText ?qs_NoPart_NoText ?qz_Clash_NoText ?qs_Clash_NoText ?qz_Orphan_NoText ?qs_Orphan_NoText ?qz_Double_NoText ?qs_Double_NoText ?qz_Twice_NoText ?qs_Twice_NoText ?qz_TooMany_NoText ?qs_TooMany_NoText ?qs_NoText_NoText ?qz_NoExpr_NoText ?qs_NoExpr_NoText ?qz_HouseError_NoText ?qs_HouseError_NoText ?qz_NoRow_Orphan ?qk_Orphan ?qj_Orphan ?qs_NoRow_Orphan ?qz_TooWide_Orphan ?qs_TooWide_Orphan ?qz_Fault_Orphan ?qs_Fault_Orphan ?qz_NoDrop_Orphan ?qs_NoDrop_Orphan ?qz_NoName_Orphan ?qs_NoName_Orphan ?qz_NoPart_Orphan ?qs_NoPart_Orphan ?qz_Clash_Orphan ?qs_Clash_Orphan ?qs_Orphan_Orphan ?qz_Double_Orphan ?qs_Double_Orphan ?qz_Twice_Orphan ?qs_Twice_Orphan ?qz_TooMany_Orphan ?qs_TooMany_Orphan ?qz_NoText_Orphan ?qs_NoText_Orphan ?qz_NoExpr_Orphan ?qs_NoExpr_Orphan ?qz_HouseError_Orphan ?qs_HouseError_Orphan ?qz_NoRow_TooMany ?qk_TooMany ?qj_TooMany ?qs_NoRow_TooMany ?qz_TooWide_TooMany ?qs_TooWide_TooMany ?qz_Fault_TooMany ?qs_Fault_TooMany ?qz_NoDrop_TooMany ?qs_NoDrop_TooMany ?qz_NoName_TooMany ?qs_NoName_TooMany ?qz_NoPart_TooMany ?qs_NoPart_TooMany ?qz_Clash_TooMany ?qs_Clash_TooMany ?qz_Orphan_TooMany ?qs_Orphan_TooMany ?qz_Double_TooMany ?qs_Double_TooMany ?qz_Twice_TooMany ?qs_Twice_TooMany ?qs_TooMany_TooMany ?qz_NoText_TooMany ?qs_NoText_TooMany ?qz_NoExpr_TooMany ?qs_NoExpr_TooMany ?qz_HouseError_TooMany ?qs_HouseError_TooMany ?qz_NoRow_TooWide ?qk_TooWide ?qs_NoRow_TooWide ?qs_TooWide_TooWide ?qz_Fault_TooWide ?qs_Fault_TooWide ?qz_NoDrop_TooWide ?qs_NoDrop_TooWide ?qz_NoName_TooWide ?qs_NoName_TooWide ?qz_NoPart_TooWide ?qs_NoPart_TooWide ?qz_Clash_TooWide ?qs_Clash_TooWide ?qz_Orphan_TooWide ?qs_Orphan_TooWide ?qz_Double_TooWide ?qs_Double_TooWide ?qz_Twice_TooWide ?qs_Twice_TooWide ?qz_TooMany_TooWide ?qs_TooMany_TooWide ?qz_NoText_TooWide ?qs_NoText_TooWide ?qz_NoExpr_TooWide ?qs_NoExpr_TooWide ?qz_HouseError_TooWide ?qs_HouseError_TooWide ?qz_NoRow_Twice ?qk_Twice ?qj_Twice ?qs_NoRow_Twice ?qz_TooWide_Twice ?qs_TooWide_Twice ?qz_Fault_Twice ?qs_Fault_Twice ?qz_NoDrop_Twice ?qs_NoDrop_Twice ?qz_NoName_Twice ?qs_NoName_Twice ?qz_NoPart_Twice ?qs_NoPart_Twice ?qz_Clash_Twice ?qs_Clash_Twice ?qz_Orphan_Twice ?qs_Orphan_Twice ?qz_Double_Twice ?qs_Double_Twice ?qs_Twice_Twice ?qz_TooMany_Twice ?qs_TooMany_Twice ?qz_NoText_Twice ?qs_NoText_Twice ?qz_NoExpr_Twice ?qs_NoExpr_Twice ?qz_HouseError_Twice ?qs_HouseError_Twice ?qv_NoRow ?qv_TooWide ?qv_Fault ?qv_NoDrop ?qv_NoName ?qv_NoPart ?qv_Clash ?qv_Orphan ?qv_Double ?qv_Twice ?qv_TooMany ?qv_NoText ?qv_NoExpr ?qv_HouseError ?qn_NoDrop_address ?qn_NoPart_address ?qn_NoRow_at ?qn_Clash_at ?qn_Orphan_at ?qn_Double_at ?qn_Twice_at ?qn_TooMany_at ?qn_NoText_at ?qn_Fault_name ?qn_NoName_name ?qn_Fault_trail ?qn_Fault_whose ?qn_Fault_word ?lx_NoText ?rx_NoText ?sa_NoText ?kc_NoText ?lx_TooMany ?rx_TooMany ?sa_TooMany ?kc_TooMany ?lx_Twice ?rx_Twice ?sa_Twice ?kc_Twice ?lx_Double ?rx_Double ?sa_Double ?kc_Double ?lx_Orphan ?rx_Orphan ?sa_Orphan ?kc_Orphan ?lx_Clash ?rx_Clash ?sa_Clash ?kc_Clash ?lx_NoRow ?rx_NoRow ?sa_NoRow ?kc_NoRow ?lx_NoPart ?rx_NoPart ?sa_NoPart ?kc_NoPart ?lx_NoDrop ?rx_NoDrop ?sa_NoDrop ?kc_NoDrop ?lx_NoName ?rx_NoName ?sa_NoName ?kc_NoName ?lx_Fault ?rx_Fault ?sa_Fault ?kc_Fault ?z_ValueError ?z_bool ?z_int ?z_isinstance ?z_len ?z_list ?z_max ?z_min ?z_range ?z_str
    (case qa_NoText => k_is)
    (case m0_NoText => k_is)
    (case tf0 => k_is)
    (case l0 => k_is)
    (case c0 => k_is)
    (case k0 => k_is)
    (case qa_TooMany => k_is)
    (case m1_TooMany => k_is)
    (case tf1 => k_is)
    (case l1 => k_is)
    (case c1 => k_is)
    (case k1 => k_is)
    (case qa_Twice => k_is)
    (case m2_Twice => k_is)
    (case tf2 => k_is)
    (case l2 => k_is)
    (case c2 => k_is)
    (case k2 => k_is)
    (case qa_Double => k_is)
    (case m3_Double => k_is)
    (case tf3 => k_is)
    (case l3 => k_is)
    (case c3 => k_is)
    (case k3 => k_is)
    (case qa_Orphan => k_is)
    (case m4_Orphan => k_is)
    (case tf4 => k_is)
    (case l4 => k_is)
    (case c4 => k_is)
    (case k4 => k_is)
    (case qa_Clash => k_is)
    (case m5_Clash => k_is)
    (case tf5 => k_is)
    (case l5 => k_is)
    (case c5 => k_is)
    (case k5 => k_is)
    (case qa_NoRow => k_is)
    (case m6_NoRow => k_is)
    (case tf6 => k_is)
    (case l6 => k_is)
    (case c6 => k_is)
    (case k6 => k_is)
    (case qa_NoPart => k_is)
    (case m7_NoPart => k_is)
    (case tf7 => k_is)
    (case l7 => k_is)
    (case c7 => k_is)
    (case k7 => k_is)
    (case qa_NoDrop => k_is)
    (case m8_NoDrop => k_is)
    (case tf8 => k_is)
    (case l8 => k_is)
    (case c8 => k_is)
    (case k8 => k_is)
    (case qa_NoName => k_is)
    (case m9_NoName => k_is)
    (case tf9 => k_is)
    (case l9 => k_is)
    (case c9 => k_is)
    (case k9 => k_is)
    (case qa_Fault => k_is)
    (case m10_Fault => k_is)
    (case tf10 => k_is)
    (case l10 => k_is)
    (case c10 => k_is)
    (case k10 => k_is)
    (case a11 => k_is)
    (case l11 => k_is)
    (case c11 => k_is)
    (case k11 => k_is)
    (case a12 => k_is)
    (case l12 => k_is)
    (case c12 => k_is)
    (case k12 => k_is)
    (case a13 => k_is)
    (case l13 => k_is)
    (case c13 => k_is)
    (case k13 => k_is)
    (case a14 => k_is)
    (case l14 => k_is)
    (case c14 => k_is)
    (case k14 => k_is)
    (case a15 => k_is)
    (case l15 => k_is)
    (case c15 => k_is)
    (case k15 => k_is)
    (case a16 => k_is)
    (case l16 => k_is)
    (case c16 => k_is)
    (case k16 => k_is)
    (case a17 => k_is)
    (case l17 => k_is)
    (case c17 => k_is)
    (case k17 => k_is)
    (case a18 => k_is)
    (case l18 => k_is)
    (case c18 => k_is)
    (case k18 => k_is)
    (case a19 => k_is)
    (case l19 => k_is)
    (case c19 => k_is)
    (case k19 => k_is)
    (case a20 => k_is)
    (case l20 => k_is)
    (case c20 => k_is)
    (case k20 => k_is)
    (case a21 => k_is)
    (case l21 => k_is)
    (case c21 => k_is)
    (case k21 => k_is)
    (case qa_HouseError => k_is)
    (case xb_HouseError => k_exc)
    (case kc_HouseError => k_is)
    (case xd_HouseError => k_is)
    (case qj_HouseError => k_is)
    (case qa_NoExpr => k_is)
    (case xb_NoExpr => k_exc)
    (case kc_NoExpr => k_is)
    (case xd_NoExpr => k_is)
    (case qj_NoExpr => k_is)
    (case qa_TooWide => k_is)
    (case xb_TooWide => k_exc)
    (case kc_TooWide => k_is)
    (case xd_TooWide => k_is)
    (case qj_TooWide => k_is)
    (case rd_HouseError => k_is)
    (case sg_HouseError => k_is)
    (case fc_HouseError => k_is)
    (case ga_NoRow => k_is)
    (case qn_NoRow___getattr__ => k_is)
    (case qf_NoRow => k_is)
    (case xd_NoRow => k_is)
    (case qc_NoRow => k_is)
    (case qg => k_is)
    (case qh => k_is)
    (case qi_NoRow => k_is)
    (case qz_NoRow_Clash => rfl)
    (case qk_Clash => k_is)
    (case qj_Clash => k_is)
    (case qs_NoRow_Clash => k_is)
    (case ga_TooWide => k_is)
    (case qn_TooWide___getattr__ => k_is)
    (case qf_TooWide => k_is)
    (case qc_TooWide => k_is)
    (case qi_TooWide => k_is)
    (case qz_TooWide_Clash => rfl)
    (case qs_TooWide_Clash => k_is)
    (case ga_Fault => k_is)
    (case qn_Fault___getattr__ => k_is)
    (case qf_Fault => k_is)
    (case xd_Fault => k_is)
    (case qc_Fault => k_is)
    (case qi_Fault => k_is)
    (case qz_Fault_Clash => rfl)
    (case qs_Fault_Clash => k_is)
    (case ga_NoDrop => k_is)
    (case qn_NoDrop___getattr__ => k_is)
    (case qf_NoDrop => k_is)
    (case xd_NoDrop => k_is)
    (case qc_NoDrop => k_is)
    (case qi_NoDrop => k_is)
    (case qz_NoDrop_Clash => rfl)
    (case qs_NoDrop_Clash => k_is)
    (case ga_NoName => k_is)
    (case qn_NoName___getattr__ => k_is)
    (case qf_NoName => k_is)
    (case xd_NoName => k_is)
    (case qc_NoName => k_is)
    (case qi_NoName => k_is)
    (case qz_NoName_Clash => rfl)
    (case qs_NoName_Clash => k_is)
    (case ga_NoPart => k_is)
    (case qn_NoPart___getattr__ => k_is)
    (case qf_NoPart => k_is)
    (case xd_NoPart => k_is)
    (case qc_NoPart => k_is)
    (case qi_NoPart => k_is)
    (case qz_NoPart_Clash => rfl)
    (case qs_NoPart_Clash => k_is)
    (case ga_Clash => k_is)
    (case qn_Clash___getattr__ => k_is)
    (case qf_Clash => k_is)
    (case xd_Clash => k_is)
    (case qc_Clash => k_is)
    (case qi_Clash => k_is)
    (case qs_Clash_Clash => k_is)
    (case ga_Orphan => k_is)
    (case qn_Orphan___getattr__ => k_is)
    (case qf_Orphan => k_is)
    (case xd_Orphan => k_is)
    (case qc_Orphan => k_is)
    (case qi_Orphan => k_is)
    (case qz_Orphan_Clash => rfl)
    (case qs_Orphan_Clash => k_is)
    (case ga_Double => k_is)
    (case qn_Double___getattr__ => k_is)
    (case qf_Double => k_is)
    (case xd_Double => k_is)
    (case qc_Double => k_is)
    (case qi_Double => k_is)
    (case qz_Double_Clash => rfl)
    (case qs_Double_Clash => k_is)
    (case ga_Twice => k_is)
    (case qn_Twice___getattr__ => k_is)
    (case qf_Twice => k_is)
    (case xd_Twice => k_is)
    (case qc_Twice => k_is)
    (case qi_Twice => k_is)
    (case qz_Twice_Clash => rfl)
    (case qs_Twice_Clash => k_is)
    (case ga_TooMany => k_is)
    (case qn_TooMany___getattr__ => k_is)
    (case qf_TooMany => k_is)
    (case xd_TooMany => k_is)
    (case qc_TooMany => k_is)
    (case qi_TooMany => k_is)
    (case qz_TooMany_Clash => rfl)
    (case qs_TooMany_Clash => k_is)
    (case ga_NoText => k_is)
    (case qn_NoText___getattr__ => k_is)
    (case qf_NoText => k_is)
    (case xd_NoText => k_is)
    (case qc_NoText => k_is)
    (case qi_NoText => k_is)
    (case qz_NoText_Clash => rfl)
    (case qs_NoText_Clash => k_is)
    (case ga_NoExpr => k_is)
    (case qn_NoExpr___getattr__ => k_is)
    (case qf_NoExpr => k_is)
    (case qc_NoExpr => k_is)
    (case qi_NoExpr => k_is)
    (case qz_NoExpr_Clash => rfl)
    (case qs_NoExpr_Clash => k_is)
    (case ga_HouseError => k_is)
    (case qn_HouseError___getattr__ => k_is)
    (case qf_HouseError => k_is)
    (case qc_HouseError => k_is)
    (case qi_HouseError => k_is)
    (case qz_HouseError_Clash => rfl)
    (case qs_HouseError_Clash => k_is)
    (case qz_NoRow_Double => rfl)
    (case qk_Double => k_is)
    (case qj_Double => k_is)
    (case qs_NoRow_Double => k_is)
    (case qz_TooWide_Double => rfl)
    (case qs_TooWide_Double => k_is)
    (case qz_Fault_Double => rfl)
    (case qs_Fault_Double => k_is)
    (case qz_NoDrop_Double => rfl)
    (case qs_NoDrop_Double => k_is)
    (case qz_NoName_Double => rfl)
    (case qs_NoName_Double => k_is)
    (case qz_NoPart_Double => rfl)
    (case qs_NoPart_Double => k_is)
    (case qz_Clash_Double => rfl)
    (case qs_Clash_Double => k_is)
    (case qz_Orphan_Double => rfl)
    (case qs_Orphan_Double => k_is)
    (case qs_Double_Double => k_is)
    (case qz_Twice_Double => rfl)
    (case qs_Twice_Double => k_is)
    (case qz_TooMany_Double => rfl)
    (case qs_TooMany_Double => k_is)
    (case qz_NoText_Double => rfl)
    (case qs_NoText_Double => k_is)
    (case qz_NoExpr_Double => rfl)
    (case qs_NoExpr_Double => k_is)
    (case qz_HouseError_Double => rfl)
    (case qs_HouseError_Double => k_is)
    (case qz_NoRow_Fault => rfl)
    (case qk_Fault => k_is)
    (case qj_Fault => k_is)
    (case qs_NoRow_Fault => k_is)
    (case qz_TooWide_Fault => rfl)
    (case qs_TooWide_Fault => k_is)
    (case qs_Fault_Fault => k_is)
    (case qz_NoDrop_Fault => rfl)
    (case qs_NoDrop_Fault => k_is)
    (case qz_NoName_Fault => rfl)
    (case qs_NoName_Fault => k_is)
    (case qz_NoPart_Fault => rfl)
    (case qs_NoPart_Fault => k_is)
    (case qz_Clash_Fault => rfl)
    (case qs_Clash_Fault => k_is)
    (case qz_Orphan_Fault => rfl)
    (case qs_Orphan_Fault => k_is)
    (case qz_Double_Fault => rfl)
    (case qs_Double_Fault => k_is)
    (case qz_Twice_Fault => rfl)
    (case qs_Twice_Fault => k_is)
    (case qz_TooMany_Fault => rfl)
    (case qs_TooMany_Fault => k_is)
    (case qz_NoText_Fault => rfl)
    (case qs_NoText_Fault => k_is)
    (case qz_NoExpr_Fault => rfl)
    (case qs_NoExpr_Fault => k_is)
    (case qz_HouseError_Fault => rfl)
    (case qs_HouseError_Fault => k_is)
    (case qk_HouseError => k_is)
    (case qs_NoRow_HouseError => k_is)
    (case qs_TooWide_HouseError => k_is)
    (case qs_Fault_HouseError => k_is)
    (case qs_NoDrop_HouseError => k_is)
    (case qs_NoName_HouseError => k_is)
    (case qs_NoPart_HouseError => k_is)
    (case qs_Clash_HouseError => k_is)
    (case qs_Orphan_HouseError => k_is)
    (case qs_Double_HouseError => k_is)
    (case qs_Twice_HouseError => k_is)
    (case qs_TooMany_HouseError => k_is)
    (case qs_NoText_HouseError => k_is)
    (case qs_NoExpr_HouseError => k_is)
    (case qs_HouseError_HouseError => k_is)
    (case qz_NoRow_NoDrop => rfl)
    (case qk_NoDrop => k_is)
    (case qj_NoDrop => k_is)
    (case qs_NoRow_NoDrop => k_is)
    (case qz_TooWide_NoDrop => rfl)
    (case qs_TooWide_NoDrop => k_is)
    (case qz_Fault_NoDrop => rfl)
    (case qs_Fault_NoDrop => k_is)
    (case qs_NoDrop_NoDrop => k_is)
    (case qz_NoName_NoDrop => rfl)
    (case qs_NoName_NoDrop => k_is)
    (case qz_NoPart_NoDrop => rfl)
    (case qs_NoPart_NoDrop => k_is)
    (case qz_Clash_NoDrop => rfl)
    (case qs_Clash_NoDrop => k_is)
    (case qz_Orphan_NoDrop => rfl)
    (case qs_Orphan_NoDrop => k_is)
    (case qz_Double_NoDrop => rfl)
    (case qs_Double_NoDrop => k_is)
    (case qz_Twice_NoDrop => rfl)
    (case qs_Twice_NoDrop => k_is)
    (case qz_TooMany_NoDrop => rfl)
    (case qs_TooMany_NoDrop => k_is)
    (case qz_NoText_NoDrop => rfl)
    (case qs_NoText_NoDrop => k_is)
    (case qz_NoExpr_NoDrop => rfl)
    (case qs_NoExpr_NoDrop => k_is)
    (case qz_HouseError_NoDrop => rfl)
    (case qs_HouseError_NoDrop => k_is)
    (case qz_NoRow_NoExpr => rfl)
    (case qk_NoExpr => k_is)
    (case qs_NoRow_NoExpr => k_is)
    (case qz_TooWide_NoExpr => rfl)
    (case qs_TooWide_NoExpr => k_is)
    (case qz_Fault_NoExpr => rfl)
    (case qs_Fault_NoExpr => k_is)
    (case qz_NoDrop_NoExpr => rfl)
    (case qs_NoDrop_NoExpr => k_is)
    (case qz_NoName_NoExpr => rfl)
    (case qs_NoName_NoExpr => k_is)
    (case qz_NoPart_NoExpr => rfl)
    (case qs_NoPart_NoExpr => k_is)
    (case qz_Clash_NoExpr => rfl)
    (case qs_Clash_NoExpr => k_is)
    (case qz_Orphan_NoExpr => rfl)
    (case qs_Orphan_NoExpr => k_is)
    (case qz_Double_NoExpr => rfl)
    (case qs_Double_NoExpr => k_is)
    (case qz_Twice_NoExpr => rfl)
    (case qs_Twice_NoExpr => k_is)
    (case qz_TooMany_NoExpr => rfl)
    (case qs_TooMany_NoExpr => k_is)
    (case qz_NoText_NoExpr => rfl)
    (case qs_NoText_NoExpr => k_is)
    (case qs_NoExpr_NoExpr => k_is)
    (case qz_HouseError_NoExpr => rfl)
    (case qs_HouseError_NoExpr => k_is)
    (case qz_NoRow_NoName => rfl)
    (case qk_NoName => k_is)
    (case qj_NoName => k_is)
    (case qs_NoRow_NoName => k_is)
    (case qz_TooWide_NoName => rfl)
    (case qs_TooWide_NoName => k_is)
    (case qz_Fault_NoName => rfl)
    (case qs_Fault_NoName => k_is)
    (case qz_NoDrop_NoName => rfl)
    (case qs_NoDrop_NoName => k_is)
    (case qs_NoName_NoName => k_is)
    (case qz_NoPart_NoName => rfl)
    (case qs_NoPart_NoName => k_is)
    (case qz_Clash_NoName => rfl)
    (case qs_Clash_NoName => k_is)
    (case qz_Orphan_NoName => rfl)
    (case qs_Orphan_NoName => k_is)
    (case qz_Double_NoName => rfl)
    (case qs_Double_NoName => k_is)
    (case qz_Twice_NoName => rfl)
    (case qs_Twice_NoName => k_is)
    (case qz_TooMany_NoName => rfl)
    (case qs_TooMany_NoName => k_is)
    (case qz_NoText_NoName => rfl)
    (case qs_NoText_NoName => k_is)
    (case qz_NoExpr_NoName => rfl)
    (case qs_NoExpr_NoName => k_is)
    (case qz_HouseError_NoName => rfl)
    (case qs_HouseError_NoName => k_is)
    (case qz_NoRow_NoPart => rfl)
    (case qk_NoPart => k_is)
    (case qj_NoPart => k_is)
    (case qs_NoRow_NoPart => k_is)
    (case qz_TooWide_NoPart => rfl)
    (case qs_TooWide_NoPart => k_is)
    (case qz_Fault_NoPart => rfl)
    (case qs_Fault_NoPart => k_is)
    (case qz_NoDrop_NoPart => rfl)
    (case qs_NoDrop_NoPart => k_is)
    (case qz_NoName_NoPart => rfl)
    (case qs_NoName_NoPart => k_is)
    (case qs_NoPart_NoPart => k_is)
    (case qz_Clash_NoPart => rfl)
    (case qs_Clash_NoPart => k_is)
    (case qz_Orphan_NoPart => rfl)
    (case qs_Orphan_NoPart => k_is)
    (case qz_Double_NoPart => rfl)
    (case qs_Double_NoPart => k_is)
    (case qz_Twice_NoPart => rfl)
    (case qs_Twice_NoPart => k_is)
    (case qz_TooMany_NoPart => rfl)
    (case qs_TooMany_NoPart => k_is)
    (case qz_NoText_NoPart => rfl)
    (case qs_NoText_NoPart => k_is)
    (case qz_NoExpr_NoPart => rfl)
    (case qs_NoExpr_NoPart => k_is)
    (case qz_HouseError_NoPart => rfl)
    (case qs_HouseError_NoPart => k_is)
    (case qk_NoRow => k_is)
    (case qj_NoRow => k_is)
    (case qs_NoRow_NoRow => k_is)
    (case qz_TooWide_NoRow => rfl)
    (case qs_TooWide_NoRow => k_is)
    (case qz_Fault_NoRow => rfl)
    (case qs_Fault_NoRow => k_is)
    (case qz_NoDrop_NoRow => rfl)
    (case qs_NoDrop_NoRow => k_is)
    (case qz_NoName_NoRow => rfl)
    (case qs_NoName_NoRow => k_is)
    (case qz_NoPart_NoRow => rfl)
    (case qs_NoPart_NoRow => k_is)
    (case qz_Clash_NoRow => rfl)
    (case qs_Clash_NoRow => k_is)
    (case qz_Orphan_NoRow => rfl)
    (case qs_Orphan_NoRow => k_is)
    (case qz_Double_NoRow => rfl)
    (case qs_Double_NoRow => k_is)
    (case qz_Twice_NoRow => rfl)
    (case qs_Twice_NoRow => k_is)
    (case qz_TooMany_NoRow => rfl)
    (case qs_TooMany_NoRow => k_is)
    (case qz_NoText_NoRow => rfl)
    (case qs_NoText_NoRow => k_is)
    (case qz_NoExpr_NoRow => rfl)
    (case qs_NoExpr_NoRow => k_is)
    (case qz_HouseError_NoRow => rfl)
    (case qs_HouseError_NoRow => k_is)
    (case qz_NoRow_NoText => rfl)
    (case qk_NoText => k_is)
    (case qj_NoText => k_is)
    (case qs_NoRow_NoText => k_is)
    (case qz_TooWide_NoText => rfl)
    (case qs_TooWide_NoText => k_is)
    (case qz_Fault_NoText => rfl)
    (case qs_Fault_NoText => k_is)
    (case qz_NoDrop_NoText => rfl)
    (case qs_NoDrop_NoText => k_is)
    (case qz_NoName_NoText => rfl)
    (case qs_NoName_NoText => k_is)
    (case qz_NoPart_NoText => rfl)
    (case qs_NoPart_NoText => k_is)
    (case qz_Clash_NoText => rfl)
    (case qs_Clash_NoText => k_is)
    (case qz_Orphan_NoText => rfl)
    (case qs_Orphan_NoText => k_is)
    (case qz_Double_NoText => rfl)
    (case qs_Double_NoText => k_is)
    (case qz_Twice_NoText => rfl)
    (case qs_Twice_NoText => k_is)
    (case qz_TooMany_NoText => rfl)
    (case qs_TooMany_NoText => k_is)
    (case qs_NoText_NoText => k_is)
    (case qz_NoExpr_NoText => rfl)
    (case qs_NoExpr_NoText => k_is)
    (case qz_HouseError_NoText => rfl)
    (case qs_HouseError_NoText => k_is)
    (case qz_NoRow_Orphan => rfl)
    (case qk_Orphan => k_is)
    (case qj_Orphan => k_is)
    (case qs_NoRow_Orphan => k_is)
    (case qz_TooWide_Orphan => rfl)
    (case qs_TooWide_Orphan => k_is)
    (case qz_Fault_Orphan => rfl)
    (case qs_Fault_Orphan => k_is)
    (case qz_NoDrop_Orphan => rfl)
    (case qs_NoDrop_Orphan => k_is)
    (case qz_NoName_Orphan => rfl)
    (case qs_NoName_Orphan => k_is)
    (case qz_NoPart_Orphan => rfl)
    (case qs_NoPart_Orphan => k_is)
    (case qz_Clash_Orphan => rfl)
    (case qs_Clash_Orphan => k_is)
    (case qs_Orphan_Orphan => k_is)
    (case qz_Double_Orphan => rfl)
    (case qs_Double_Orphan => k_is)
    (case qz_Twice_Orphan => rfl)
    (case qs_Twice_Orphan => k_is)
    (case qz_TooMany_Orphan => rfl)
    (case qs_TooMany_Orphan => k_is)
    (case qz_NoText_Orphan => rfl)
    (case qs_NoText_Orphan => k_is)
    (case qz_NoExpr_Orphan => rfl)
    (case qs_NoExpr_Orphan => k_is)
    (case qz_HouseError_Orphan => rfl)
    (case qs_HouseError_Orphan => k_is)
    (case qz_NoRow_TooMany => rfl)
    (case qk_TooMany => k_is)
    (case qj_TooMany => k_is)
    (case qs_NoRow_TooMany => k_is)
    (case qz_TooWide_TooMany => rfl)
    (case qs_TooWide_TooMany => k_is)
    (case qz_Fault_TooMany => rfl)
    (case qs_Fault_TooMany => k_is)
    (case qz_NoDrop_TooMany => rfl)
    (case qs_NoDrop_TooMany => k_is)
    (case qz_NoName_TooMany => rfl)
    (case qs_NoName_TooMany => k_is)
    (case qz_NoPart_TooMany => rfl)
    (case qs_NoPart_TooMany => k_is)
    (case qz_Clash_TooMany => rfl)
    (case qs_Clash_TooMany => k_is)
    (case qz_Orphan_TooMany => rfl)
    (case qs_Orphan_TooMany => k_is)
    (case qz_Double_TooMany => rfl)
    (case qs_Double_TooMany => k_is)
    (case qz_Twice_TooMany => rfl)
    (case qs_Twice_TooMany => k_is)
    (case qs_TooMany_TooMany => k_is)
    (case qz_NoText_TooMany => rfl)
    (case qs_NoText_TooMany => k_is)
    (case qz_NoExpr_TooMany => rfl)
    (case qs_NoExpr_TooMany => k_is)
    (case qz_HouseError_TooMany => rfl)
    (case qs_HouseError_TooMany => k_is)
    (case qz_NoRow_TooWide => rfl)
    (case qk_TooWide => k_is)
    (case qs_NoRow_TooWide => k_is)
    (case qs_TooWide_TooWide => k_is)
    (case qz_Fault_TooWide => rfl)
    (case qs_Fault_TooWide => k_is)
    (case qz_NoDrop_TooWide => rfl)
    (case qs_NoDrop_TooWide => k_is)
    (case qz_NoName_TooWide => rfl)
    (case qs_NoName_TooWide => k_is)
    (case qz_NoPart_TooWide => rfl)
    (case qs_NoPart_TooWide => k_is)
    (case qz_Clash_TooWide => rfl)
    (case qs_Clash_TooWide => k_is)
    (case qz_Orphan_TooWide => rfl)
    (case qs_Orphan_TooWide => k_is)
    (case qz_Double_TooWide => rfl)
    (case qs_Double_TooWide => k_is)
    (case qz_Twice_TooWide => rfl)
    (case qs_Twice_TooWide => k_is)
    (case qz_TooMany_TooWide => rfl)
    (case qs_TooMany_TooWide => k_is)
    (case qz_NoText_TooWide => rfl)
    (case qs_NoText_TooWide => k_is)
    (case qz_NoExpr_TooWide => rfl)
    (case qs_NoExpr_TooWide => k_is)
    (case qz_HouseError_TooWide => rfl)
    (case qs_HouseError_TooWide => k_is)
    (case qz_NoRow_Twice => rfl)
    (case qk_Twice => k_is)
    (case qj_Twice => k_is)
    (case qs_NoRow_Twice => k_is)
    (case qz_TooWide_Twice => rfl)
    (case qs_TooWide_Twice => k_is)
    (case qz_Fault_Twice => rfl)
    (case qs_Fault_Twice => k_is)
    (case qz_NoDrop_Twice => rfl)
    (case qs_NoDrop_Twice => k_is)
    (case qz_NoName_Twice => rfl)
    (case qs_NoName_Twice => k_is)
    (case qz_NoPart_Twice => rfl)
    (case qs_NoPart_Twice => k_is)
    (case qz_Clash_Twice => rfl)
    (case qs_Clash_Twice => k_is)
    (case qz_Orphan_Twice => rfl)
    (case qs_Orphan_Twice => k_is)
    (case qz_Double_Twice => rfl)
    (case qs_Double_Twice => k_is)
    (case qs_Twice_Twice => k_is)
    (case qz_TooMany_Twice => rfl)
    (case qs_TooMany_Twice => k_is)
    (case qz_NoText_Twice => rfl)
    (case qs_NoText_Twice => k_is)
    (case qz_NoExpr_Twice => rfl)
    (case qs_NoExpr_Twice => k_is)
    (case qz_HouseError_Twice => rfl)
    (case qs_HouseError_Twice => k_is)
    (case qv_NoRow => k_is)
    (case qv_TooWide => k_is)
    (case qv_Fault => k_is)
    (case qv_NoDrop => k_is)
    (case qv_NoName => k_is)
    (case qv_NoPart => k_is)
    (case qv_Clash => k_is)
    (case qv_Orphan => k_is)
    (case qv_Double => k_is)
    (case qv_Twice => k_is)
    (case qv_TooMany => k_is)
    (case qv_NoText => k_is)
    (case qv_NoExpr => k_is)
    (case qv_HouseError => k_is)
    (case qn_NoDrop_address => k_is)
    (case qn_NoPart_address => k_is)
    (case qn_NoRow_at => k_is)
    (case qn_Clash_at => k_is)
    (case qn_Orphan_at => k_is)
    (case qn_Double_at => k_is)
    (case qn_Twice_at => k_is)
    (case qn_TooMany_at => k_is)
    (case qn_NoText_at => k_is)
    (case qn_Fault_name => k_is)
    (case qn_NoName_name => k_is)
    (case qn_Fault_trail => k_is)
    (case qn_Fault_whose => k_is)
    (case qn_Fault_word => k_is)
    (case lx_NoText => k_is)
    (case rx_NoText => (first | rfl | decide +kernel))
    (case sa_NoText => k_is)
    (case kc_NoText => k_is)
    (case lx_TooMany => k_is)
    (case rx_TooMany => (first | rfl | decide +kernel))
    (case sa_TooMany => k_is)
    (case kc_TooMany => k_is)
    (case lx_Twice => k_is)
    (case rx_Twice => (first | rfl | decide +kernel))
    (case sa_Twice => k_is)
    (case kc_Twice => k_is)
    (case lx_Double => k_is)
    (case rx_Double => (first | rfl | decide +kernel))
    (case sa_Double => k_is)
    (case kc_Double => k_is)
    (case lx_Orphan => k_is)
    (case rx_Orphan => (first | rfl | decide +kernel))
    (case sa_Orphan => k_is)
    (case kc_Orphan => k_is)
    (case lx_Clash => k_is)
    (case rx_Clash => (first | rfl | decide +kernel))
    (case sa_Clash => k_is)
    (case kc_Clash => k_is)
    (case lx_NoRow => k_is)
    (case rx_NoRow => (first | rfl | decide +kernel))
    (case sa_NoRow => k_is)
    (case kc_NoRow => k_is)
    (case lx_NoPart => k_is)
    (case rx_NoPart => (first | rfl | decide +kernel))
    (case sa_NoPart => k_is)
    (case kc_NoPart => k_is)
    (case lx_NoDrop => k_is)
    (case rx_NoDrop => (first | rfl | decide +kernel))
    (case sa_NoDrop => k_is)
    (case kc_NoDrop => k_is)
    (case lx_NoName => k_is)
    (case rx_NoName => (first | rfl | decide +kernel))
    (case sa_NoName => k_is)
    (case kc_NoName => k_is)
    (case lx_Fault => k_is)
    (case rx_Fault => (first | rfl | decide +kernel))
    (case sa_Fault => k_is)
    (case kc_Fault => k_is)
    (case z_ValueError => k_is)
    (case z_bool => k_is)
    (case z_int => k_is)
    (case z_isinstance => k_is)
    (case z_len => k_is)
    (case z_list => k_is)
    (case z_max => k_is)
    (case z_min => k_is)
    (case z_range => k_is)
    (case z_str => k_is)

