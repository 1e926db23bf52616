import PyProof.Rows.All
import Wide.All
import OpenK.AllK
import Wide.FinOn
import PySem.Challenge.RW_drawhouse_k21_rows_read
import HandS.ForMost
import HandS.ForExc
import HandS.Walk
import HandS.IsInst
import HandS.Wide
import HandS.WideBits
import HandS.Deep
import HandS.Conv
import HandS.Flow
import HandS.Evl
import HandS.TryOnly
import HandS.ExcOwn
import HandS.Codes
import HandS.Small
import HandS.RaiseMore
import HandS.DeepEq
import PyProof.StrOps2
import PyProof.P3Eq
import PyProof.ExcBaseAll.ValueError
import HandS.Rev
import HandS.TupLe
import HandS.SuiteRaise
import HandS.ExcInit
import HandS.ExcField
import HandS.ExcIs
import KE.KExcIs
set_option Elab.async false
set_option linter.all false
set_option maxRecDepth 100000
set_option maxHeartbeats 4000000
/-! Se0: texts and lists. -/
namespace Sd
open PySem PySem.Spec PyProof.Rows L2
abbrev S (l : List Nat) : Str := ⟨l.toArray⟩
/-- the greatest length of a text -/
def LMax : Nat := 16000000
def chrOk (l : List Nat) : Bool := l.all (· < 0x110000)
structure StrOk (l : List Nat) : Prop where
  len : l.length ≤ LMax
  chr : chrOk l = true
theorem StrOk.line {l : List Nat} (h : StrOk l) : l.length + 2 ≤ sizeLine := by
  have := h.len
  unfold LMax at this
  rw [sizeLine_eq]
  omega
theorem StrOk.le {l : List Nat} (h : StrOk l) : l.length ≤ sizeLine := by
  have := h.line
  omega
theorem chrOk_sub {l m : List Nat} (h : chrOk m = true) (s : ∀ x ∈ l, x ∈ m) : chrOk l = true := by
  unfold chrOk at h ⊢
  rw [List.all_eq_true] at h ⊢
  exact fun x hx => h x (s x hx)
theorem StrOk.sub {l m : List Nat} (h : StrOk m) (s : ∀ x ∈ l, x ∈ m) (n : l.length ≤ m.length) : StrOk l := ⟨Nat.le_trans n h.len, chrOk_sub h.chr s⟩
theorem chrOk_app {l m : List Nat} (h : chrOk l = true) (k : chrOk m = true) : chrOk (l ++ m) = true := by
  unfold chrOk at h k ⊢
  rw [List.all_append, h, k]
  rfl
def strOkB (l : List Nat) : Bool := decide (l.length ≤ 1000) && chrOk l
theorem strOk_of {l : List Nat} (h : strOkB l = true) : StrOk l := by
  unfold strOkB at h
  rw [Bool.and_eq_true, decide_eq_true_eq] at h
  exact ⟨by unfold LMax; omega, h.2⟩
def cutL {α : Type} (xs : List α) (lo hi : Option Int) : List α := (xs.drop (HT.sIx xs.length 0 lo)).take (HT.sIx xs.length xs.length hi - HT.sIx xs.length 0 lo)
theorem cutL_map {α β : Type} {f : α → β} (xs : List α) (lo hi : Option Int) : cutL (xs.map f) lo hi = (cutL xs lo hi).map f := by
  unfold cutL
  rw [List.length_map, List.map_take, List.map_drop]
/-! ### total readings -/
def ix {α : Type} (xs : List α) (i : Int) (d : α) : α := (atI xs i).getD d
theorem atI_some {α : Type} {xs : List α} {i : Int} (h : -(xs.length : Int) ≤ i ∧ i < xs.length) : ∃ y, atI xs i = some y := by
  unfold atI ixN
  by_cases h0 : 0 ≤ i
  · rw [if_pos h0, if_pos h.2]
    exact ⟨xs[i.toNat]'(by omega), by show xs[i.toNat]? = _; rw [List.getElem?_eq_getElem]⟩
  · rw [if_neg h0, if_pos h.1]
    exact ⟨xs[(i + xs.length).toNat]'(by omega), by show xs[(i + xs.length).toNat]? = _; rw [List.getElem?_eq_getElem]⟩
theorem ix_ok {α : Type} {xs : List α} {i : Int} {d : α} (h : -(xs.length : Int) ≤ i ∧ i < xs.length) : atI xs i = some (ix xs i d) := by
  obtain ⟨y, e⟩ := atI_some h
  unfold ix
  rw [e]
  rfl
theorem ix_nat {α : Type} (xs : List α) (i : Nat) (d : α) : ix xs (i : Int) d = xs.getD i d := by
  unfold ix atI ixN
  by_cases h : i < xs.length
  · rw [if_pos (by omega), if_pos (by omega)]
    show (xs[(i : Int).toNat]?).getD d = _
    simp
  · rw [if_pos (by omega), if_neg (by omega)]
    show d = _
    rw [List.getD_eq_getElem?_getD, List.getElem?_eq_none (by omega)]
    rfl
def splitS (l m : List Nat) : List (List Nat) := (Txt.split (S l) (S m)).map fun z => z.cps.toList
def joinS (l : List Nat) (ls : List (List Nat)) : List Nat := (Txt.join (S l) (ls.map S)).cps.toList
def enumI {α : Type} (xs : List α) : List (Int × α) := xs.zipIdx.map fun z => ((z.2 : Int), z.1)

theorem joinS_eq (l : List Nat) (ls : List (List Nat)) : joinS l ls = TL.joinL l ls := by
  have h := SX.join_S l ls
  unfold joinS
  show (Txt.join (SX.S l) (ls.map SX.S)).cps.toList = _
  rw [h]
def consH (x : Nat) : List (List Nat) → List (List Nat)
  | [] => [[x]]
  | h :: t => (x :: h) :: t
def spC (c : Nat) : List Nat → List (List Nat)
  | [] => [[]]
  | x :: xs => if x = c then [] :: spC c xs else consH x (spC c xs)
theorem spC_ne (c : Nat) (l : List Nat) : spC c l ≠ [] := by
  cases l with
  | nil => simp [spC]
  | cons x xs =>
    unfold spC
    split
    · simp
    · cases spC c xs <;> simp [consH]
theorem spl_one (c : Nat) : ∀ (l acc : List Nat), TL.spl [c] 0 acc l = (match spC c l with | [] => [acc] | h :: t => (acc ++ h) :: t)
  | [], acc => by simp [TL.spl, spC]
  | x :: xs, acc => by
    by_cases h : x = c
    · subst h
      have hp : TL.pre [x] (x :: xs) = true := by simp [TL.pre]
      rw [TL.spl_hit hp]
      show acc :: TL.spl [x] 0 [] xs = _
      rw [spl_one x xs []]
      have e : spC x (x :: xs) = [] :: spC x xs := by
        show (if x = x then _ else _) = _
        rw [if_pos rfl]
      rw [e]
      simp only [List.append_nil, List.nil_append]
      cases hs : spC x xs with
      | nil => exact absurd hs (spC_ne x xs)
      | cons a b => rfl
    · have hp : TL.pre [c] (x :: xs) = false := by simp [TL.pre, h]
      rw [TL.spl_miss hp, spl_one c xs (acc ++ [x])]
      have e : spC c (x :: xs) = consH x (spC c xs) := by
        show (if x = c then _ else _) = _
        rw [if_neg h]
      rw [e]
      cases hs : spC c xs with
      | nil => exact absurd hs (spC_ne c xs)
      | cons a b => simp [consH]
theorem splitS_one {c : Nat} (hc : c < 256) (l : List Nat) : splitS l [c] = spC c l := by
  have h := SX.split_S (a := l) (b := [c]) (by simp) (by simp [hc])
  unfold splitS
  show (Txt.split (SX.S l) (SX.S [c])).map (fun z => z.cps.toList) = _
  rw [h, List.map_map]
  have e : ((fun z : Str => z.cps.toList) ∘ SX.S) = id := by
    funext z
    simp [SX.S]
  rw [e, List.map_id, spl_one]
  cases hs : spC c l with
  | nil => exact absurd hs (spC_ne c l)
  | cons a b => simp
theorem spC_free {c : Nat} : ∀ (l : List Nat) (p : List Nat), p ∈ spC c l → c ∉ p
  | [], p, h => by
    simp [spC] at h
    subst h
    simp
  | x :: xs, p, h => by
    unfold spC at h
    split at h
    · rcases List.mem_cons.mp h with e | h
      · subst e
        simp
      · exact spC_free xs p h
    · rename_i hx
      cases hs : spC c xs with
      | nil => exact absurd hs (spC_ne c xs)
      | cons a b =>
        rw [hs] at h
        have ih : ∀ q ∈ a :: b, c ∉ q := fun q hq => spC_free xs q (by rw [hs]; exact hq)
        rcases List.mem_cons.mp h with e | h
        · subst e
          intro hm
          rcases List.mem_cons.mp hm with e | hm
          · exact hx e.symm
          · exact ih a List.mem_cons_self hm
        · exact ih p (List.mem_cons_of_mem _ h)
theorem spC_no {c : Nat} : ∀ {l : List Nat}, c ∉ l → spC c l = [l]
  | [], _ => rfl
  | x :: xs, h => by
    unfold spC
    rw [if_neg (fun e => h (by rw [e]; exact List.mem_cons_self)), spC_no (fun m => h (List.mem_cons_of_mem _ m))]
    rfl
theorem spC_app {c : Nat} : ∀ {p : List Nat} (q : List Nat), c ∉ p → spC c (p ++ c :: q) = p :: spC c q
  | [], q, _ => by
    show (if c = c then _ else _) = _
    rw [if_pos rfl]
  | x :: xs, q, h => by
    show (if x = c then _ else consH x (spC c (xs ++ c :: q))) = _
    rw [if_neg (fun e => h (by rw [e]; exact List.mem_cons_self)), spC_app q (fun m => h (List.mem_cons_of_mem _ m))]
    rfl
theorem spC_join {c : Nat} : ∀ {ls : List (List Nat)}, ls ≠ [] → (∀ p ∈ ls, c ∉ p) → spC c (TL.joinL [c] ls) = ls
  | [], h, _ => absurd rfl h
  | [p], _, h => spC_no (h p List.mem_cons_self)
  | p :: q :: r, _, h => by
    show spC c (p ++ ([c] ++ TL.joinL [c] (q :: r))) = _
    rw [List.singleton_append, spC_app _ (h p List.mem_cons_self), spC_join (by simp) (fun x hx => h x (List.mem_cons_of_mem _ hx))]
theorem join_spC (c : Nat) : ∀ (l : List Nat), TL.joinL [c] (spC c l) = l
  | [] => rfl
  | x :: xs => by
    have ih := join_spC c xs
    unfold spC
    cases hs : spC c xs with
    | nil => exact absurd hs (spC_ne c xs)
    | cons a b =>
      rw [hs] at ih
      split
      · rename_i e
        show [] ++ ([c] ++ TL.joinL [c] (a :: b)) = _
        rw [ih, e]
        rfl
      · cases b with
        | nil =>
          have ih' : a = xs := ih
          show x :: a = _
          rw [ih']
        | cons b r =>
          show (x :: a) ++ ([c] ++ TL.joinL [c] (b :: r)) = _
          rw [List.cons_append]
          exact congrArg (x :: ·) ih
theorem split_join {c : Nat} (hc : c < 256) {ls : List (List Nat)} (h : ls ≠ []) (hp : ∀ p ∈ ls, c ∉ p) : splitS (joinS [c] ls) [c] = ls := by
  rw [splitS_one hc, joinS_eq, spC_join h hp]
theorem join_split {c : Nat} (hc : c < 256) (l : List Nat) : joinS [c] (splitS l [c]) = l := by
  rw [splitS_one hc, joinS_eq, join_spC]
theorem joinL_nil : ∀ (ls : List (List Nat)), TL.joinL [] ls = ls.flatten
  | [] => rfl
  | [p] => by simp [TL.joinL]
  | p :: q :: r => by
    show p ++ ([] ++ TL.joinL [] (q :: r)) = _
    rw [joinL_nil (q :: r)]
    rfl
theorem joinS_nil (ls : List (List Nat)) : joinS [] ls = ls.flatten := by rw [joinS_eq, joinL_nil]
theorem joinL_len (S : List Nat) : ∀ (ls : List (List Nat)), (TL.joinL S ls).length ≤ (ls.map (·.length)).sum + ls.length * S.length
  | [] => by simp [TL.joinL]
  | [p] => by simp [TL.joinL]
  | p :: q :: r => by
    have ih := joinL_len S (q :: r)
    show (p ++ (S ++ TL.joinL S (q :: r))).length ≤ _
    rw [List.length_append, List.length_append, List.map_cons, List.sum_cons, List.length_cons (as := q :: r)]
    rw [Nat.add_mul]
    omega
theorem sum_le {n : Nat} : ∀ {ls : List (List Nat)}, (∀ x ∈ ls, x.length ≤ n) → (ls.map (·.length)).sum ≤ n * ls.length
  | [], _ => by simp
  | p :: r, h => by
    have ih := sum_le (ls := r) (fun x hx => h x (List.mem_cons_of_mem _ hx))
    have hp := h p List.mem_cons_self
    rw [List.map_cons, List.sum_cons, List.length_cons, Nat.mul_add]
    omega
theorem join_ok {n m k : Nat} {ls : List (List Nat)} {s : List Nat} (h : ∀ x ∈ ls, x.length ≤ n) (hm : ls.length ≤ m) (hs : s.length ≤ k) (hk : n * m + m * k ≤ 16777216) : (ls.map (·.length)).sum + ls.length * s.length ≤ 16777216 := by
  have h1 := sum_le h
  have h2 := Nat.mul_le_mul (Nat.le_refl n) hm
  have h3 := Nat.mul_le_mul hm hs
  omega
theorem joinS_len {n m k : Nat} {ls : List (List Nat)} {s : List Nat} (h : ∀ x ∈ ls, x.length ≤ n) (hm : ls.length ≤ m) (hs : s.length ≤ k) : (joinS s ls).length ≤ n * m + m * k := by
  rw [joinS_eq]
  have h0 := joinL_len s ls
  have h1 := sum_le h
  have h2 := Nat.mul_le_mul (Nat.le_refl n) hm
  have h3 := Nat.mul_le_mul hm hs
  omega
theorem cutL_sub {α : Type} {xs : List α} {i j : Option Int} {x : α} (h : x ∈ cutL xs i j) : x ∈ xs := by
  unfold cutL at h
  exact List.mem_of_mem_drop (List.mem_of_mem_take h)
theorem cutL_len {α : Type} (xs : List α) (i j : Option Int) : (cutL xs i j).length ≤ xs.length := by
  unfold cutL
  rw [List.length_take, List.length_drop]
  omega
theorem spC_len_le {c : Nat} : ∀ (l : List Nat), (spC c l).length ≤ l.length + 1
  | [] => by simp [spC]
  | x :: xs => by
    have ih := spC_len_le (c := c) xs
    unfold spC
    split
    · rw [List.length_cons, List.length_cons]
      omega
    · cases hs : spC c xs with
      | nil => exact absurd hs (spC_ne c xs)
      | cons a b =>
        rw [hs] at ih
        simp only [consH, List.length_cons] at ih ⊢
        omega
theorem spC_mem_len {c : Nat} : ∀ (l : List Nat) (p : List Nat), p ∈ spC c l → p.length ≤ l.length
  | [], p, h => by
    simp [spC] at h
    subst h
    simp
  | x :: xs, p, h => by
    have ih := spC_mem_len (c := c) xs
    unfold spC at h
    split at h
    · rcases List.mem_cons.mp h with e | h
      · subst e
        simp
      · have := ih p h
        rw [List.length_cons]
        omega
    · cases hs : spC c xs with
      | nil => exact absurd hs (spC_ne c xs)
      | cons a b =>
        rw [hs] at h ih
        rcases List.mem_cons.mp h with e | h
        · subst e
          have := ih a List.mem_cons_self
          rw [List.length_cons, List.length_cons]
          omega
        · have := ih p (List.mem_cons_of_mem _ h)
          rw [List.length_cons]
          omega
theorem splitS_len {c : Nat} (hc : c < 256) (l : List Nat) : (splitS l [c]).length ≤ l.length + 1 := by rw [splitS_one hc]; exact spC_len_le l
theorem splitS_pos {c : Nat} (hc : c < 256) (l : List Nat) : 0 < (splitS l [c]).length := by rw [splitS_one hc]; exact List.length_pos_iff.mpr (spC_ne c l)
theorem splitS_mem {c : Nat} (hc : c < 256) {l p : List Nat} (h : p ∈ splitS l [c]) : p.length ≤ l.length ∧ c ∉ p := by
  rw [splitS_one hc] at h
  exact ⟨spC_mem_len l p h, spC_free l p h⟩
theorem at_mem {α : Type} {xs : List α} {i : Int} {y : α} (h : atI xs i = some y) : y ∈ xs := by
  unfold atI at h
  cases e : ixN xs.length i with
  | none =>
    rw [e] at h
    cases h
  | some j =>
    rw [e] at h
    exact List.mem_of_getElem? h
theorem StrOk.one {l : List Nat} (h : StrOk l) {c : Nat} (hc : c ∈ l) : StrOk [c] := ⟨by show 1 ≤ LMax; unfold LMax; decide, chrOk_sub h.chr fun x hx => by
  rw [List.mem_singleton.mp hx]
  exact hc⟩
theorem StrOk.cut {l : List Nat} (h : StrOk l) (i j : Option Int) : StrOk (cutL l i j) := h.sub (fun x hx => cutL_sub hx) (cutL_len _ _ _)
theorem spC_sub {c : Nat} : ∀ (l : List Nat) (p : List Nat), p ∈ spC c l → ∀ x ∈ p, x ∈ l
  | [], p, h, x, hx => by
    simp [spC] at h
    subst h
    cases hx
  | y :: ys, p, h, x, hx => by
    have ih := spC_sub (c := c) ys
    unfold spC at h
    split at h
    · rcases List.mem_cons.mp h with e | h
      · subst e
        cases hx
      · exact List.mem_cons_of_mem _ (ih p h x hx)
    · cases hs : spC c ys with
      | nil => exact absurd hs (spC_ne c ys)
      | cons a b =>
        rw [hs] at h ih
        rcases List.mem_cons.mp h with e | h
        · subst e
          rcases List.mem_cons.mp hx with e | hx
          · subst e
            exact List.mem_cons_self
          · exact List.mem_cons_of_mem _ (ih a List.mem_cons_self x hx)
        · exact List.mem_cons_of_mem _ (ih p (List.mem_cons_of_mem _ h) x hx)
theorem StrOk.split {c : Nat} (hc : c < 256) {l : List Nat} (h : StrOk l) : ∀ p ∈ splitS l [c], StrOk p := fun p hp => by
  rw [splitS_one hc] at hp
  exact h.sub (spC_sub l p hp) (spC_mem_len l p hp)
theorem chrOk_join {s : List Nat} (hs : chrOk s = true) : ∀ {ls : List (List Nat)}, (∀ l ∈ ls, chrOk l = true) → chrOk (TL.joinL s ls) = true
  | [], _ => rfl
  | [p], h => h p List.mem_cons_self
  | p :: q :: r, h => by
    show chrOk (p ++ (s ++ TL.joinL s (q :: r))) = true
    exact chrOk_app (h p List.mem_cons_self) (chrOk_app hs (chrOk_join hs fun l hl => h l (List.mem_cons_of_mem _ hl)))
theorem strOk_join {s : List Nat} {ls : List (List Nat)} (hs : StrOk s) (h : ∀ l ∈ ls, StrOk l) (hz : (ls.map (·.length)).sum + ls.length * s.length ≤ LMax) : StrOk (joinS s ls) := by
  rw [joinS_eq]
  exact ⟨Nat.le_trans (joinL_len s ls) hz, chrOk_join hs.chr fun l hl => (h l hl).chr⟩
end Sd

/-! Sd: data in slots; expressions come to data, statements to what they leave. -/
namespace Sd
open PySem PySem.Spec PyProof.Rows L2

/-! ### data -/
inductive D where
  | non | bl (b : Bool) | int (i : Int) | str (l : List Nat) | ty (n : String)
  | lst (xs : List D) | tup (xs : List D) | dct (kvs : List (Key × D)) | ins (C : Str) (fs : List (Str × D)) | scr (ns : List Int)

def KeyOk : Key → Prop
  | .inl _ => True
  | .inr s => ∃ l, s = S l ∧ StrOk l

mutual
inductive Is (K : PySem.W.Frag) (G : Hp) : V → D → Prop
  | non : Is K G .non .non
  | bl (b : Bool) : Is K G (.bl b) (.bl b)
  | int (i : Int) : Is K G (.int i) (.int i)
  | str (l : List Nat) : StrOk l → Is K G (.str (S l)) (.str l)
  | ty (n : String) : Is K G (.ty n) (.ty n)
  | lst {a : Addr} {xs : List V} {ds : List D} : G a = some (.lst xs) → IsAll K G xs ds → Is K G (.ref a) (.lst ds)
  | tup {a : Addr} {xs : List V} {ds : List D} : SqT K G a xs → IsAll K G xs ds → Is K G (.ref a) (.tup ds)
  | dct {a : Addr} {xs : List (Key × V)} {ds : List (Key × D)} : G a = some (.dK xs) → IsKV K G xs ds → Is K G (.ref a) (.dct ds)
  | ins {a C dx : Addr} {n : Str} {xs : List (Str × V)} {ds : List (Str × D)} : PySem.W.nsIn K mainGlobals n = some (some (.ref C)) → G a = some (.ins C dx xs) → IsFs K G xs ds → Is K G (.ref a) (.ins n ds)
  | scr {a : Addr} {ns : List Int} : SqL K G a (ns.map V.int) → Is K G (.ref a) (.scr ns)
inductive IsAll (K : PySem.W.Frag) (G : Hp) : List V → List D → Prop
  | nil : IsAll K G [] []
  | cons {v : V} {vs : List V} {d : D} {ds : List D} : Is K G v d → IsAll K G vs ds → IsAll K G (v :: vs) (d :: ds)
inductive IsKV (K : PySem.W.Frag) (G : Hp) : List (Key × V) → List (Key × D) → Prop
  | nil : IsKV K G [] []
  | cons {k : Key} {v : V} {vs : List (Key × V)} {d : D} {ds : List (Key × D)} : KeyOk k → Is K G v d → IsKV K G vs ds → IsKV K G ((k, v) :: vs) ((k, d) :: ds)
inductive IsFs (K : PySem.W.Frag) (G : Hp) : List (Str × V) → List (Str × D) → Prop
  | nil : IsFs K G [] []
  | cons {k : Str} {v : V} {vs : List (Str × V)} {d : D} {ds : List (Str × D)} : Is K G v d → IsFs K G vs ds → IsFs K G ((k, v) :: vs) ((k, d) :: ds)
end

abbrev Ex := Evl.Ex
section
variable {K : PySem.W.Frag} {G G' : Hp}
mutual
theorem Is.mono (e : Ex G G') : ∀ (d : D) (v : V), Is K G v d → Is K G' v d
  | .non, _, h => by cases h; exact .non
  | .bl b, _, h => by cases h; exact .bl b
  | .int i, _, h => by cases h; exact .int i
  | .str l, _, h => by cases h with | str _ k => exact .str l k
  | .ty n, _, h => by cases h; exact .ty n
  | .lst ds, _, h => by cases h with | lst h1 h2 => exact .lst (e _ _ h1) (IsAll.mono e ds _ h2)
  | .tup ds, _, h => by cases h with | tup h1 h2 => exact .tup (Evl.ex_t e h1) (IsAll.mono e ds _ h2)
  | .dct ds, _, h => by cases h with | dct h1 h2 => exact .dct (e _ _ h1) (IsKV.mono e ds _ h2)
  | .ins C ds, _, h => by cases h with | ins h0 h1 h2 => exact .ins h0 (e _ _ h1) (IsFs.mono e ds _ h2)
  | .scr ns, _, h => by cases h with | scr h1 => exact .scr (Evl.ex_l e h1)
theorem IsAll.mono (e : Ex G G') : ∀ (ds : List D) (vs : List V), IsAll K G vs ds → IsAll K G' vs ds
  | [], _, h => by cases h; exact .nil
  | d :: ds, _, h => by cases h with | cons h1 h2 => exact .cons (Is.mono e d _ h1) (IsAll.mono e ds _ h2)
theorem IsKV.mono (e : Ex G G') : ∀ (ds : List (Key × D)) (vs : List (Key × V)), IsKV K G vs ds → IsKV K G' vs ds
  | [], _, h => by cases h; exact .nil
  | (k, d) :: ds, _, h => by cases h with | cons h0 h1 h2 => exact .cons h0 (Is.mono e d _ h1) (IsKV.mono e ds _ h2)
theorem IsFs.mono (e : Ex G G') : ∀ (ds : List (Str × D)) (vs : List (Str × V)), IsFs K G vs ds → IsFs K G' vs ds
  | [], _, h => by cases h; exact .nil
  | (k, d) :: ds, _, h => by cases h with | cons h1 h2 => exact .cons (Is.mono e d _ h1) (IsFs.mono e ds _ h2)
end
theorem Is.up {v : V} {d : D} (h : Is K G v d) (e : Ex G G') : Is K G' v d := Is.mono e d v h
theorem IsAll.up {v : List V} {d : List D} (h : IsAll K G v d) (e : Ex G G') : IsAll K G' v d := IsAll.mono e d v h
theorem IsAll.len : ∀ {vs : List V} {ds : List D}, IsAll K G vs ds → vs.length = ds.length
  | _, _, .nil => rfl
  | _, _, .cons _ t => congrArg (· + 1) t.len
theorem IsAll.get : ∀ {vs : List V} {ds : List D} {i : Nat} {d : D}, IsAll K G vs ds → ds[i]? = some d → ∃ v, vs[i]? = some v ∧ Is K G v d
  | _, _, _, _, .nil, e => by simp at e
  | _, _, 0, _, .cons h _, e => by
    simp at e
    subst e
    exact ⟨_, rfl, h⟩
  | _, _, i + 1, d, .cons _ t, e => by
    obtain ⟨v, h1, h2⟩ := IsAll.get (i := i) (d := d) t (by simpa using e)
    exact ⟨v, by simpa using h1, h2⟩
theorem IsAll.getV : ∀ {vs : List V} {ds : List D} {i : Nat} {v : V}, IsAll K G vs ds → vs[i]? = some v → ∃ d, ds[i]? = some d ∧ Is K G v d
  | _, _, _, _, .nil, e => by simp at e
  | _, _, 0, _, .cons h _, e => by
    simp at e
    subst e
    exact ⟨_, rfl, h⟩
  | _, _, i + 1, d, .cons _ t, e => by
    obtain ⟨v, h1, h2⟩ := IsAll.getV (i := i) (v := d) t (by simpa using e)
    exact ⟨v, by simpa using h1, h2⟩
theorem IsAll.app : ∀ {vs ws : List V} {ds es : List D}, IsAll K G vs ds → IsAll K G ws es → IsAll K G (vs ++ ws) (ds ++ es)
  | _, _, _, _, .nil, h => h
  | _, _, _, _, .cons a t, h => .cons a (t.app h)
theorem IsAll.take : ∀ {vs : List V} {ds : List D} (n : Nat), IsAll K G vs ds → IsAll K G (vs.take n) (ds.take n)
  | _, _, 0, _ => .nil
  | _, _, _ + 1, .nil => .nil
  | _, _, n + 1, .cons a t => .cons a (t.take n)
theorem IsAll.drop : ∀ {vs : List V} {ds : List D} (n : Nat), IsAll K G vs ds → IsAll K G (vs.drop n) (ds.drop n)
  | _, _, 0, h => h
  | _, _, _ + 1, .nil => .nil
  | _, _, n + 1, .cons a t => t.drop n
theorem IsAll.set : ∀ {vs : List V} {ds : List D} (n : Nat) {v : V} {d : D}, IsAll K G vs ds → Is K G v d → IsAll K G (vs.set n v) (ds.set n d)
  | _, _, _, _, _, .nil, _ => .nil
  | _, _, 0, _, _, .cons a t, h => .cons h t
  | _, _, n + 1, _, _, .cons a t, h => .cons a (t.set n h)
theorem IsAll.rev : ∀ {vs : List V} {ds : List D}, IsAll K G vs ds → IsAll K G vs.reverse ds.reverse
  | _, _, .nil => .nil
  | _, _, .cons a t => by
    rw [List.reverse_cons, List.reverse_cons]
    exact t.rev.app (.cons a .nil)
theorem IsAll.strs : ∀ {vs : List V} {ls : List (List Nat)}, IsAll K G vs (ls.map D.str) → vs = ls.map (fun l => V.str (S l))
  | _, [], h => by cases h; rfl
  | _, l :: ls, h => by
    cases h with
    | cons h1 h2 =>
      cases h1
      rw [h2.strs]
      rfl
theorem IsAll.ints : ∀ {vs : List V} {ls : List Int}, IsAll K G vs (ls.map D.int) → vs = ls.map V.int
  | _, [], h => by cases h; rfl
  | _, l :: ls, h => by
    cases h with
    | cons h1 h2 =>
      cases h1
      rw [h2.ints]
      rfl
theorem IsAll.bls : ∀ {vs : List V} {ls : List Bool}, IsAll K G vs (ls.map D.bl) → vs = ls.map V.bl
  | _, [], h => by cases h; rfl
  | _, l :: ls, h => by
    cases h with
    | cons h1 h2 =>
      cases h1
      rw [h2.bls]
      rfl
theorem IsAll.ofStrs : ∀ (ls : List (List Nat)), (∀ l ∈ ls, StrOk l) → IsAll K G (ls.map (fun l => V.str (S l))) (ls.map D.str)
  | [], _ => .nil
  | l :: ls, h => .cons (.str l (h l List.mem_cons_self)) (IsAll.ofStrs ls fun x hx => h x (List.mem_cons_of_mem _ hx))
theorem Is.strOk {l : List Nat} {v : V} (h : Is K G v (.str l)) : StrOk l := by
  cases h with
  | str _ k => exact k
theorem IsAll.strOk : ∀ {vs : List V} {ls : List (List Nat)}, IsAll K G vs (ls.map D.str) → ∀ l ∈ ls, StrOk l
  | _, [], h => fun _ hx => nomatch hx
  | _, l :: ls, h => by
    cases h with
    | cons h1 h2 =>
      intro x hx
      rcases List.mem_cons.mp hx with e | e
      · rw [e]
        exact h1.strOk
      · exact h2.strOk x e
theorem IsAll.ofInts : ∀ (ls : List Int), IsAll K G (ls.map V.int) (ls.map D.int)
  | [] => .nil
  | l :: ls => .cons (.int l) (IsAll.ofInts ls)
end

/-! ### growth -/
structure Grow (G H G' H' : Hp) : Prop where
  g : Ex G G'
  h : Ex H H'
  s : Ex G' H'
  f : ∀ b o, H b = some o → G b = none → G' b = none
theorem Grow.refl {G H : Hp} (s : Ex G H) : Grow G H G H := ⟨Evl.Ex.refl _, Evl.Ex.refl _, s, fun _ _ _ h => h⟩
theorem Grow.trans {G H G1 H1 G2 H2 : Hp} (a : Grow G H G1 H1) (b : Grow G1 H1 G2 H2) : Grow G H G2 H2 :=
  ⟨a.g.trans b.g, a.h.trans b.h, b.s, fun x o h n => b.f x o (a.h x o h) (a.f x o h n)⟩
/-- a new object, frozen at once -/
theorem Grow.new {G H : Hp} {p : Addr} {o : HO} (s : Ex G H) (h : H p = none) : Grow G H (upd G p o) (upd H p o) := by
  have hg : G p = none := Evl.fresh_back s h
  refine ⟨Evl.Ex.new hg, Evl.Ex.new h, fun b u e => ?_, fun b u e n => ?_⟩
  · by_cases hb : b = p
    · subst hb
      rw [upd_same] at e ⊢
      exact e
    · rw [upd_ne hb] at e ⊢
      exact s b u e
  · rw [upd_ne (ne_of_none e h)]
    exact n
/-- a new object, not frozen -/
theorem Grow.lay {G H : Hp} {p : Addr} {o : HO} (s : Ex G H) (h : H p = none) : Grow G H G (upd H p o) :=
  ⟨Evl.Ex.refl _, Evl.Ex.new h, s.trans (Evl.Ex.new h), fun _ _ _ n => n⟩
/-- a laid object is frozen -/
theorem Grow.frz {G H G' H' : Hp} {p : Addr} {o : HO} (a : Grow G H G' H') (h : H p = none) (hp : H' p = some o) (n : G' p = none) : Grow G H (upd G' p o) H' := by
  refine ⟨a.g.trans (Evl.Ex.new n), a.h, fun b u e => ?_, fun b u e m => ?_⟩
  · by_cases hb : b = p
    · subst hb
      rw [upd_same] at e
      rw [hp]
      exact e
    · rw [upd_ne hb] at e
      exact a.s b u e
  · rw [upd_ne (ne_of_none e h)]
    exact a.f b u e m

/-! ### the slots -/
inductive OO where
  | lst (xs : List D) | dct (kvs : List (Key × D))
inductive B where
  | un | d (x : D) | own (o : OO) | bor (xs : List D) | exc (a : Addr) (d : Option Addr) (fs : List (Str × D))
/-- an exception that is held: where it is, and its fields -/
def ExS (K : PySem.W.Frag) (G : Hp) (v : V) (a : Addr) (d : Option Addr) (fs : List (Str × D)) : Prop := v = .ref a ∧ (fs ≠ [] → ∃ p vs, d = some p ∧ G p = some (.xd vs) ∧ IsFs K G vs fs) ∧ (fs = [] → d = none)
theorem ExS.up {K : PySem.W.Frag} {G G' : Hp} {v : V} {a : Addr} {d : Option Addr} {fs : List (Str × D)} (h : ExS K G v a d fs) (e : Ex G G') : ExS K G' v a d fs :=
  ⟨h.1, fun n => let ⟨p, vs, h1, h2, h3⟩ := h.2.1 n; ⟨p, vs, h1, e _ _ h2, IsFs.mono e _ _ h3⟩, h.2.2⟩
def OwnIs (K : PySem.W.Frag) (G : Hp) : OO → HO → Prop
  | .lst ds, .lst vs => IsAll K G vs ds
  | .dct ds, .dK kvs => IsKV K G kvs ds
  | _, _ => False
theorem OwnIs.up {K : PySem.W.Frag} {G G' : Hp} {o : OO} {u : HO} (h : OwnIs K G o u) (e : Ex G G') : OwnIs K G' o u := by
  cases o with
  | lst ds =>
    cases u with
    | lst vs => exact IsAll.up (show IsAll K G vs ds from h) e
    | _ => exact h.elim
  | dct ds =>
    cases u with
    | dK vs => exact IsKV.mono e ds vs h
    | _ => exact h.elim
theorem OwnIs.lst {K : PySem.W.Frag} {G : Hp} {ds : List D} {u : HO} (h : OwnIs K G (.lst ds) u) : ∃ vs, u = .lst vs ∧ IsAll K G vs ds := by
  cases u with
  | lst vs => exact ⟨vs, rfl, h⟩
  | _ => exact h.elim

structure Stt (K : PySem.W.Frag) (F : Hp) (Γ : List B) (σ : L2.St) (G H : Hp) : Prop where
  len : σ.length = Γ.length
  sub : Ex G H
  dat : ∀ (i : Nat) (x : D), Γ[i]? = some (B.d x) → ∃ v, σ[i]? = some (some v) ∧ Is K G v x
  own : ∀ (i : Nat) (o : OO), Γ[i]? = some (B.own o) → ∃ p u, σ[i]? = some (some (.ref p)) ∧ H p = some u ∧ G p = none ∧ F p = none ∧ OwnIs K G o u
  sep : ∀ (i j : Nat) (p : Addr) (o o' : OO), Γ[i]? = some (B.own o) → Γ[j]? = some (B.own o') → σ[i]? = some (some (.ref p)) → σ[j]? = some (some (.ref p)) → i = j
  bor : ∀ (i : Nat) (xs : List D), Γ[i]? = some (B.bor xs) → ∃ p vs, σ[i]? = some (some (.ref p)) ∧ H p = some (.lst vs) ∧ F p = some (.lst vs) ∧ IsAll K G vs xs
  exc : ∀ (i : Nat) (a : Addr) (d : Option Addr) (fs : List (Str × D)), Γ[i]? = some (B.exc a d fs) → ∃ v, σ[i]? = some (some v) ∧ ExS K G v a d fs
theorem Stt.grow {K : PySem.W.Frag} {F : Hp} {Γ : List B} {σ : L2.St} {G H G' H' : Hp} (s : Stt K F Γ σ G H) (g : Grow G H G' H') : Stt K F Γ σ G' H' :=
  ⟨s.len, g.s, fun i x h => let ⟨v, h1, h2⟩ := s.dat i x h; ⟨v, h1, h2.up g.g⟩,
   fun i o h => let ⟨p, u, h1, h2, h3, h5, h4⟩ := s.own i o h; ⟨p, u, h1, g.h p u h2, g.f p u h2 h3, h5, h4.up g.g⟩, s.sep,
   fun i xs h => let ⟨p, vs, h1, h2, h3, h4⟩ := s.bor i xs h; ⟨p, vs, h1, g.h p _ h2, h3, h4.up g.g⟩,
   fun i a d fs h => let ⟨v, h1, h2⟩ := s.exc i a d fs h; ⟨v, h1, h2.up g.g⟩⟩
/-- a slot gets data -/
theorem Stt.set {K : PySem.W.Frag} {F : Hp} {Γ : List B} {σ : L2.St} {G H : Hp} {v : V} {x : D} (s : Stt K F Γ σ G H) (i : Nat) (h : Is K G v x) : Stt K F (Γ.set i (.d x)) (σ.set i (some v)) G H := by
  refine ⟨by rw [List.length_set, List.length_set]; exact s.len, s.sub, fun j y e => ?_, fun j o e => ?_, fun j k p o o' e1 e2 e3 e4 => ?_, fun j xs e => ?_, fun j xa xd xf e => ?_⟩
  · by_cases hj : i = j
    · subst hj
      have hl : i < Γ.length := by
        have := (List.getElem?_eq_some_iff.mp e).1
        rw [List.length_set] at this
        exact this
      rw [List.getElem?_set_self hl] at e
      cases e
      exact ⟨v, List.getElem?_set_self (by rw [s.len]; exact hl), h⟩
    · rw [List.getElem?_set_ne hj] at e ⊢
      exact s.dat j y e
  · have hj : i ≠ j := fun z => by
      subst z
      have hl : i < Γ.length := by
        have := (List.getElem?_eq_some_iff.mp e).1
        rw [List.length_set] at this
        exact this
      rw [List.getElem?_set_self hl] at e
      cases e
    rw [List.getElem?_set_ne hj] at e ⊢
    exact s.own j o e
  · have ne : ∀ {j : Nat} {o : OO}, (Γ.set i (B.d x))[j]? = some (B.own o) → i ≠ j := fun {j o} e z => by
      subst z
      have hl : i < Γ.length := by
        have := (List.getElem?_eq_some_iff.mp e).1
        rw [List.length_set] at this
        exact this
      rw [List.getElem?_set_self hl] at e
      cases e
    have h1 := ne e1
    have h2 := ne e2
    rw [List.getElem?_set_ne h1] at e1 e3
    rw [List.getElem?_set_ne h2] at e2 e4
    exact s.sep j k p o o' e1 e2 e3 e4
  · have hj : i ≠ j := fun z => by
      subst z
      have hl : i < Γ.length := by
        have := (List.getElem?_eq_some_iff.mp e).1
        rw [List.length_set] at this
        exact this
      rw [List.getElem?_set_self hl] at e
      cases e
    rw [List.getElem?_set_ne hj] at e ⊢
    exact s.bor j xs e
  · have hj : i ≠ j := fun z => by
      subst z
      have hl : i < Γ.length := by
        have := (List.getElem?_eq_some_iff.mp e).1
        rw [List.length_set] at this
        exact this
      rw [List.getElem?_set_self hl] at e
      cases e
    rw [List.getElem?_set_ne hj] at e ⊢
    exact s.exc j xa xd xf e
/-- a slot is forgotten -/
theorem Stt.unset {K : PySem.W.Frag} {F : Hp} {Γ : List B} {σ : L2.St} {G H : Hp} (s : Stt K F Γ σ G H) (i : Nat) (y : Option V) : Stt K F (Γ.set i .un) (σ.set i y) G H := by
  have ne : ∀ {j : Nat} {b : B}, b ≠ .un → (Γ.set i B.un)[j]? = some b → i ≠ j := fun {j b} hb e z => by
    subst z
    have hl : i < Γ.length := by
      have := (List.getElem?_eq_some_iff.mp e).1
      rw [List.length_set] at this
      exact this
    rw [List.getElem?_set_self hl] at e
    cases e
    exact hb rfl
  refine ⟨by rw [List.length_set, List.length_set]; exact s.len, s.sub, fun j y e => ?_, fun j o e => ?_, fun j k p o o' e1 e2 e3 e4 => ?_, fun j xs e => ?_, fun j xa xd xf e => ?_⟩
  · have h1 := ne (by simp) e
    rw [List.getElem?_set_ne h1] at e ⊢
    exact s.dat j y e
  · have h1 := ne (by simp) e
    rw [List.getElem?_set_ne h1] at e ⊢
    exact s.own j o e
  · have h1 := ne (by simp) e1
    have h2 := ne (by simp) e2
    rw [List.getElem?_set_ne h1] at e1 e3
    rw [List.getElem?_set_ne h2] at e2 e4
    exact s.sep j k p o o' e1 e2 e3 e4
  · have h1 := ne (by simp) e
    rw [List.getElem?_set_ne h1] at e ⊢
    exact s.bor j xs e
  · have h1 := ne (by simp) e
    rw [List.getElem?_set_ne h1] at e ⊢
    exact s.exc j xa xd xf e
/-- a slot gets a thing of its own -/
theorem Stt.setO {K : PySem.W.Frag} {F : Hp} {Γ : List B} {σ : L2.St} {G H : Hp} {p : Addr} {u : HO} {o : OO} (s : Stt K F Γ σ G H) (i : Nat) (hp : H p = some u) (n : G p = none) (f : F p = none) (h : OwnIs K G o u)
    (d : ∀ (j : Nat) (o' : OO), j ≠ i → Γ[j]? = some (B.own o') → σ[j]? ≠ some (some (V.ref p))) : Stt K F (Γ.set i (.own o)) (σ.set i (some (.ref p))) G H := by
  have bd : ∀ {j : Nat} {b : B}, i = j → (Γ.set i (B.own o))[j]? = some b → b = .own o ∧ i < Γ.length := fun {j b} z e => by
    subst z
    have hl : i < Γ.length := by
      have := (List.getElem?_eq_some_iff.mp e).1
      rw [List.length_set] at this
      exact this
    rw [List.getElem?_set_self hl] at e
    cases e
    exact ⟨rfl, hl⟩
  refine ⟨by rw [List.length_set, List.length_set]; exact s.len, s.sub, fun j y e => ?_, fun j o1 e => ?_, fun j k q o1 o2 e1 e2 e3 e4 => ?_, fun j xs e => ?_, fun j xa xd xf e => ?_⟩
  · by_cases hj : i = j
    · cases (bd hj e).1
    · rw [List.getElem?_set_ne hj] at e ⊢
      exact s.dat j y e
  · by_cases hj : i = j
    · obtain ⟨z, hl⟩ := bd hj e
      cases z
      subst hj
      exact ⟨p, u, List.getElem?_set_self (by rw [s.len]; exact hl), hp, n, f, h⟩
    · rw [List.getElem?_set_ne hj] at e ⊢
      exact s.own j o1 e
  · by_cases hj : i = j
    · by_cases hk : i = k
      · exact hj.symm.trans hk
      · obtain ⟨_, hl⟩ := bd hj e1
        subst hj
        rw [List.getElem?_set_ne hk] at e2 e4
        rw [List.getElem?_set_self (by rw [s.len]; exact hl)] at e3
        cases e3
        exact absurd e4 (d k o2 (Ne.symm hk) e2)
    · by_cases hk : i = k
      · obtain ⟨_, hl⟩ := bd hk e2
        subst hk
        rw [List.getElem?_set_ne hj] at e1 e3
        rw [List.getElem?_set_self (by rw [s.len]; exact hl)] at e4
        cases e4
        exact absurd e3 (d j o1 (Ne.symm hj) e1)
      · rw [List.getElem?_set_ne hj] at e1 e3
        rw [List.getElem?_set_ne hk] at e2 e4
        exact s.sep j k q o1 o2 e1 e2 e3 e4
  · by_cases hj : i = j
    · cases (bd hj e).1
    · rw [List.getElem?_set_ne hj] at e ⊢
      exact s.bor j xs e
  · by_cases hj : i = j
    · cases (bd hj e).1
    · rw [List.getElem?_set_ne hj] at e ⊢
      exact s.exc j xa xd xf e
/-- a new thing's address is nobody's -/
theorem Stt.fresh {K : PySem.W.Frag} {F : Hp} {Γ : List B} {σ : L2.St} {G H : Hp} {p : Addr} (s : Stt K F Γ σ G H) (n : H p = none) {j : Nat} {o : OO} (e : Γ[j]? = some (B.own o)) : σ[j]? ≠ some (some (V.ref p)) := fun z => by
  obtain ⟨q, u, h1, h2, _⟩ := s.own j o e
  rw [h1] at z
  cases z
  rw [n] at h2
  cases h2
/-- one's own thing in a slot changes -/
theorem Stt.mut {K : PySem.W.Frag} {F : Hp} {Γ : List B} {σ : L2.St} {G H : Hp} {p : Addr} {u : HO} {o o' : OO} (s : Stt K F Γ σ G H) {i : Nat} (e : Γ[i]? = some (B.own o)) (hs : σ[i]? = some (some (V.ref p))) (h : OwnIs K G o' u) :
    Stt K F (Γ.set i (.own o')) σ G (upd H p u) := by
  obtain ⟨q, w, h1, h2, h3, h5, _⟩ := s.own i o e
  rw [hs] at h1
  cases h1
  have hl : i < Γ.length := (List.getElem?_eq_some_iff.mp e).1
  refine ⟨by rw [List.length_set]; exact s.len, fun b u' e' => ?_, fun j y e' => ?_, fun j o1 e' => ?_, fun j k q o1 o2 e1 e2 e3 e4 => ?_, fun j xs e' => ?_, fun j xa xd xf e' => ?_⟩
  · rw [upd_ne (ne_of_none e' h3)]
    exact s.sub b u' e'
  · have hj : i ≠ j := fun z => by
      subst z
      rw [List.getElem?_set_self hl] at e'
      cases e'
    rw [List.getElem?_set_ne hj] at e'
    exact s.dat j y e'
  · by_cases hj : i = j
    · subst hj
      rw [List.getElem?_set_self hl] at e'
      cases e'
      exact ⟨p, u, hs, upd_same, h3, h5, h⟩
    · rw [List.getElem?_set_ne hj] at e'
      obtain ⟨q, w', k1, k2, k3, k4, k5⟩ := s.own j o1 e'
      have hne : q ≠ p := fun z => by
        subst z
        exact hj (s.sep i j q o o1 e e' hs k1)
      exact ⟨q, w', k1, by rw [upd_ne hne]; exact k2, k3, k4, k5⟩
  · have back : ∀ {j : Nat} {o1 : OO}, (Γ.set i (B.own o'))[j]? = some (B.own o1) → ∃ o2, Γ[j]? = some (B.own o2) := fun {j o1} e' => by
      by_cases hj : i = j
      · subst hj
        exact ⟨o, e⟩
      · rw [List.getElem?_set_ne hj] at e'
        exact ⟨o1, e'⟩
    obtain ⟨o3, e5⟩ := back e1
    obtain ⟨o4, e6⟩ := back e2
    exact s.sep j k q o3 o4 e5 e6 e3 e4
  · have hj : i ≠ j := fun z => by
      subst z
      rw [List.getElem?_set_self hl] at e'
      cases e'
    rw [List.getElem?_set_ne hj] at e'
    obtain ⟨q, vs, k1, k2, k3, k4⟩ := s.bor j xs e'
    have hne : q ≠ p := fun z => by
      subst z
      rw [h5] at k3
      cases k3
    exact ⟨q, vs, k1, by rw [upd_ne hne]; exact k2, k3, k4⟩
  · have hj : i ≠ j := fun z => by
      subst z
      rw [List.getElem?_set_self hl] at e'
      cases e'
    rw [List.getElem?_set_ne hj] at e'
    exact s.exc j xa xd xf e'
/-- one's own list stays from now on -/
theorem Stt.frzL {K : PySem.W.Frag} {F : Hp} {Γ : List B} {σ : L2.St} {G H : Hp} {ds : List D} (s : Stt K F Γ σ G H) {i : Nat} (e : Γ[i]? = some (B.own (.lst ds))) :
    ∃ p vs, σ[i]? = some (some (V.ref p)) ∧ H p = some (.lst vs) ∧ G p = none ∧ F p = none ∧ Stt K F (Γ.set i (.d (.lst ds))) σ (upd G p (.lst vs)) H := by
  obtain ⟨p, u, h1, h2, h3, h5, h4⟩ := s.own i _ e
  obtain ⟨vs, rfl, ha⟩ := h4.lst
  have hl : i < Γ.length := (List.getElem?_eq_some_iff.mp e).1
  have ex : Ex G (upd G p (.lst vs)) := Evl.Ex.new h3
  refine ⟨p, vs, h1, h2, h3, h5, ?_⟩
  refine ⟨by rw [List.length_set]; exact s.len, fun b u' e' => ?_, fun j y e' => ?_, fun j o1 e' => ?_, fun j k q o1 o2 e1 e2 e3 e4 => ?_, fun j xs e' => ?_, fun j xa xd xf e' => ?_⟩
  · by_cases hb : b = p
    · subst hb
      rw [upd_same] at e'
      rw [h2]
      exact e'
    · rw [upd_ne hb] at e'
      exact s.sub b u' e'
  · by_cases hj : i = j
    · subst hj
      rw [List.getElem?_set_self hl] at e'
      cases e'
      exact ⟨_, h1, .lst upd_same (ha.up ex)⟩
    · rw [List.getElem?_set_ne hj] at e'
      obtain ⟨v, k1, k2⟩ := s.dat j y e'
      exact ⟨v, k1, k2.up ex⟩
  · by_cases hj : i = j
    · subst hj
      rw [List.getElem?_set_self hl] at e'
      cases e'
    · rw [List.getElem?_set_ne hj] at e'
      obtain ⟨q, w', k1, k2, k3, k4, k5⟩ := s.own j o1 e'
      have hne : q ≠ p := fun z => by
        subst z
        exact hj (s.sep i j q _ o1 e e' h1 k1)
      exact ⟨q, w', k1, k2, by rw [upd_ne hne]; exact k3, k4, k5.up ex⟩
  · have ne : ∀ {j : Nat} {o : OO}, (Γ.set i (B.d (.lst ds)))[j]? = some (B.own o) → i ≠ j := fun {j o} e z => by
      subst z
      rw [List.getElem?_set_self hl] at e
      cases e
    have n1 := ne e1
    have n2 := ne e2
    rw [List.getElem?_set_ne n1] at e1
    rw [List.getElem?_set_ne n2] at e2
    exact s.sep j k q o1 o2 e1 e2 e3 e4
  · have hj : i ≠ j := fun z => by
      subst z
      rw [List.getElem?_set_self hl] at e'
      cases e'
    rw [List.getElem?_set_ne hj] at e'
    obtain ⟨q, ws, k1, k2, k3, k4⟩ := s.bor j xs e'
    exact ⟨q, ws, k1, k2, k3, k4.up ex⟩
  · have hj : i ≠ j := fun z => by
      subst z
      rw [List.getElem?_set_self hl] at e'
      cases e'
    rw [List.getElem?_set_ne hj] at e'
    obtain ⟨v, k1, k2⟩ := s.exc j xa xd xf e'
    exact ⟨v, k1, k2.up ex⟩

/-- a slot gets an exception that is held -/
theorem Stt.setE {K : PySem.W.Frag} {F : Hp} {Γ : List B} {σ : L2.St} {G H : Hp} {v : V} {a : Addr} {d : Option Addr} {fs : List (Str × D)} (s : Stt K F Γ σ G H) (i : Nat) (h : ExS K G v a d fs) : Stt K F (Γ.set i (.exc a d fs)) (σ.set i (some v)) G H := by
  have bd : ∀ {j : Nat} {b : B}, i = j → (Γ.set i (B.exc a d fs))[j]? = some b → b = .exc a d fs ∧ i < Γ.length := fun {j b} z e => by
    subst z
    have hl : i < Γ.length := by
      have := (List.getElem?_eq_some_iff.mp e).1
      rw [List.length_set] at this
      exact this
    rw [List.getElem?_set_self hl] at e
    cases e
    exact ⟨rfl, hl⟩
  refine ⟨by rw [List.length_set, List.length_set]; exact s.len, s.sub, fun j y e => ?_, fun j o e => ?_, fun j k p o o' e1 e2 e3 e4 => ?_, fun j xs e => ?_, fun j xa xd xf e => ?_⟩
  · by_cases hj : i = j
    · cases (bd hj e).1
    · rw [List.getElem?_set_ne hj] at e ⊢
      exact s.dat j y e
  · by_cases hj : i = j
    · cases (bd hj e).1
    · rw [List.getElem?_set_ne hj] at e ⊢
      exact s.own j o e
  · have h1 : i ≠ j := fun z => by cases (bd z e1).1
    have h2 : i ≠ k := fun z => by cases (bd z e2).1
    rw [List.getElem?_set_ne h1] at e1 e3
    rw [List.getElem?_set_ne h2] at e2 e4
    exact s.sep j k p o o' e1 e2 e3 e4
  · by_cases hj : i = j
    · cases (bd hj e).1
    · rw [List.getElem?_set_ne hj] at e ⊢
      exact s.bor j xs e
  · by_cases hj : i = j
    · obtain ⟨z, hl⟩ := bd hj e
      cases z
      subst hj
      exact ⟨v, List.getElem?_set_self (by rw [s.len]; exact hl), h⟩
    · rw [List.getElem?_set_ne hj] at e ⊢
      exact s.exc j xa xd xf e

/-! ### what an expression comes to -/
def EvD (K : PySem.W.Frag) (Γ : List B) (te : TE) (x : D) : Prop :=
  ∀ F σ G H, Stt K F Γ σ G H → ∀ Q : VK, (∀ v G' H', Grow G H G' H' → Is K G' v x → Q v H') → te σ H Q
/-- a new thing of one's own -/
def EvO (K : PySem.W.Frag) (Γ : List B) (te : TE) (o : OO) : Prop :=
  ∀ F σ G H, Stt K F Γ σ G H → ∀ Q : VK, (∀ p u G' H', Grow G H G' H' → H' p = some u → G' p = none → H p = none → OwnIs K G' o u → Q (.ref p) H') → te σ H Q
/-- a list that may be read -/
def EvL (K : PySem.W.Frag) (Γ : List B) (te : TE) (ds : List D) : Prop :=
  ∀ F σ G H, Stt K F Γ σ G H → ∀ Q : VK, (∀ p vs G' H', Grow G H G' H' → H' p = some (.lst vs) → IsAll K G' vs ds → Q (.ref p) H') → te σ H Q
def EvT (K : PySem.W.Frag) (Γ : List B) (tt : TT) (b : Bool) : Prop :=
  ∀ F σ G H, Stt K F Γ σ G H → ∀ Q : Bool → Hp → Prop, (∀ G' H', Grow G H G' H' → Q b H') → tt σ H Q
def EvA (K : PySem.W.Frag) (Γ : List B) (ta : TA) (ds : List D) : Prop :=
  ∀ F σ G H, Stt K F Γ σ G H → ∀ Q : List V → Hp → Prop, (∀ vs G' H', Grow G H G' H' → IsAll K G' vs ds → Q vs H') → ta σ H Q
def EvP (K : PySem.W.Frag) (Γ : List B) (to : TO) (o : Option Int) : Prop :=
  ∀ F σ G H, Stt K F Γ σ G H → ∀ Q : Option Int → Hp → Prop, (∀ G' H', Grow G H G' H' → Q o H') → to σ H Q

/-! the readings by their meaning -/
structure WE (X : Cx) (e : Expr) (σ : L2.St) (H : Hp) (Q : VK) : Prop where
  run : ∀ (pins : List (Addr × Obj)) (s : Shared), Inv X pins σ H s → wpAny (model X.prog X.w) X.A (eval e X.env) (EP X pins σ Q) X.xe s
structure WT (X : Cx) (e : Expr) (σ : L2.St) (H : Hp) (Q : Bool → Hp → Prop) : Prop where
  run : ∀ (pins : List (Addr × Obj)) (s : Shared), Inv X pins σ H s → wpAny (model X.prog X.w) X.A (isTrue e X.env (eval e X.env)) (TP X pins σ Q) X.xe s
structure WW (X : Cx) (e : Expr) (σ : L2.St) (H : Hp) (Q : Bool → Hp → Prop) : Prop where
  run : ∀ (whole : Sem Value) (pins : List (Addr × Obj)) (s : Shared), Inv X pins σ H s → wpAny (model X.prog X.w) X.A (isTrue e X.env whole) (TP X pins σ Q) X.xe s
structure WA (X : Cx) (es : List Expr) (σ : L2.St) (H : Hp) (Q : List V → Hp → Prop) : Prop where
  run : ∀ (pos : Pos) (pins : List (Addr × Obj)) (s : Shared), Inv X pins σ H s → wpAny (model X.prog X.w) X.A (spliced (backTo pos (starEach es X.env))) (AP X pins σ Q) X.xe s
structure WS (X : Cx) (sts : List Stmt) (D : Ends) (σ : L2.St) (H : Hp) : Prop where
  run : ∀ (pins : List (Addr × Obj)) (s : Shared), Inv X pins σ H s → wpAny (model X.prog X.w) X.A (execs sts X.env) (SP X pins D) X.xe s
def wE (X : Cx) (e : Expr) : TE := WE X e
def wT (X : Cx) (e : Expr) : TT := WT X e
def wW (X : Cx) (e : Expr) : TT := WW X e
def wA (X : Cx) (es : List Expr) : TA := WA X es
def wS (X : Cx) (sts : List Stmt) : TS := WS X sts
section
variable {X : Cx} {e : Expr} {es : List Expr} {sts : List Stmt}
theorem pe_w : PE X e (wE X e) := ⟨fun pins s _ _ _ I h => WE.run h pins s I⟩
theorem pt_w : PT X e (wT X e) := ⟨fun pins s _ _ _ I h => WT.run h pins s I⟩
theorem pw_w : PW X e (wW X e) := ⟨fun wh pins s _ _ _ I h => WW.run h wh pins s I⟩
theorem pa_w : PA X es (wA X es) := ⟨fun pos pins s _ _ _ I h => WA.run h pos pins s I⟩
theorem pss_w : PSs X sts (wS X sts) := ⟨fun pins s _ _ _ I h => WS.run h pins s I⟩
end

abbrev ED (X : Cx) (Γ : List B) (e : Expr) (x : D) : Prop := EvD X.K Γ (wE X e) x
abbrev EO (X : Cx) (Γ : List B) (e : Expr) (o : OO) : Prop := EvO X.K Γ (wE X e) o
abbrev EL (X : Cx) (Γ : List B) (e : Expr) (ds : List D) : Prop := EvL X.K Γ (wE X e) ds
abbrev ET (X : Cx) (Γ : List B) (e : Expr) (b : Bool) : Prop := EvT X.K Γ (wT X e) b
abbrev EW (X : Cx) (Γ : List B) (e : Expr) (b : Bool) : Prop := EvT X.K Γ (wW X e) b
abbrev EA (X : Cx) (Γ : List B) (es : List Expr) (ds : List D) : Prop := EvA X.K Γ (wA X es) ds

section
variable {X : Cx} {Γ : List B} {e : Expr} {es : List Expr} {x : D} {o : OO} {ds : List D} {b : Bool}
theorem ed_of {t : TE} (h : PE X e t) (k : EvD X.K Γ t x) : ED X Γ e x := fun F σ G H s Q q => ⟨fun pins sh I => h.run pins sh σ H Q I (k F σ G H s Q q)⟩
theorem eo_of {t : TE} (h : PE X e t) (k : EvO X.K Γ t o) : EO X Γ e o := fun F σ G H s Q q => ⟨fun pins sh I => h.run pins sh σ H Q I (k F σ G H s Q q)⟩
theorem el_of {t : TE} (h : PE X e t) (k : EvL X.K Γ t ds) : EL X Γ e ds := fun F σ G H s Q q => ⟨fun pins sh I => h.run pins sh σ H Q I (k F σ G H s Q q)⟩
theorem et_of {t : TT} (h : PT X e t) (k : EvT X.K Γ t b) : ET X Γ e b := fun F σ G H s Q q => ⟨fun pins sh I => h.run pins sh σ H Q I (k F σ G H s Q q)⟩
theorem ew_of {t : TT} (h : PW X e t) (k : EvT X.K Γ t b) : EW X Γ e b := fun F σ G H s Q q => ⟨fun wh pins sh I => h.run wh pins sh σ H Q I (k F σ G H s Q q)⟩
theorem ea_of {t : TA} (h : PA X es t) (k : EvA X.K Γ t ds) : EA X Γ es ds := fun F σ G H s Q q => ⟨fun pos pins sh I => h.run pos pins sh σ H Q I (k F σ G H s Q q)⟩
end
section
variable {K : PySem.W.Frag} {Γ : List B} {te : TE} {o : OO} {ds : List D}
/-- one's own thing as a thing that stays -/
theorem EvO.frz (h : EvO K Γ te (.lst ds)) : EvD K Γ te (.lst ds) := fun F σ G H s Q q => h F σ G H s Q fun p u G' H' g hp n hn ho => by
  obtain ⟨vs, rfl, ha⟩ := ho.lst
  exact q _ _ _ (g.frz hn hp n) (.lst upd_same (ha.up (Evl.Ex.new n)))
theorem EvO.frzD {ks : List (Key × D)} (h : EvO K Γ te (.dct ks)) : EvD K Γ te (.dct ks) := fun F σ G H s Q q => h F σ G H s Q fun p u G' H' g hp n hn ho => by
  cases u with
  | dK vs => exact q _ _ _ (g.frz hn hp n) (.dct upd_same (IsKV.mono (Evl.Ex.new n) ks vs ho))
  | _ => exact ho.elim
theorem EvO.el (h : EvO K Γ te (.lst ds)) : EvL K Γ te ds := fun F σ G H s Q q => h F σ G H s Q fun p u G' H' g hp n hn ho => by
  obtain ⟨vs, rfl, ha⟩ := ho.lst
  exact q _ _ _ _ g hp ha
theorem EvD.el (h : EvD K Γ te (.lst ds)) : EvL K Γ te ds := fun F σ G H s Q q => h F σ G H s Q fun v G' H' g hi => by
  cases hi with
  | lst h1 h2 => exact q _ _ _ _ g (g.s _ _ h1) h2
end
end Sd

namespace Sd
open PySem PySem.Spec PyProof.Rows L2

/-! ### argument lists without stars -/
def nst : Expr → Bool
  | .Starred .. => false
  | _ => true
theorem starEach_ns {e : Expr} {es : List Expr} {env : Env} (h : nst e = true) : starEach (e :: es) env = (false, eval e env) :: starEach es env := by
  cases e <;> first | rfl | cases h
theorem starEach_ns2 {a b : Expr} {env : Env} (h : (nst a && nst b) = true) : starEach [a, b] env = [(false, eval a env), (false, eval b env)] := by
  rw [Bool.and_eq_true] at h
  rw [starEach_ns h.1, starEach_ns h.2]
  rfl
theorem plain_ok {env : Env} {pos : Pos} : ∀ {es : List Expr}, es.all nst = true → (backTo pos (starEach es env)).any (·.1) = false
  | [], _ => rfl
  | e :: es, h => by
    rw [List.all_cons, Bool.and_eq_true] at h
    have ih := plain_ok (env := env) (pos := pos) h.2
    rw [starEach_ns h.1]
    unfold backTo at ih ⊢
    rw [List.map_cons, List.any_cons, ih]
    rfl
theorem few_ok {env : Env} {cpos : Pos} {es : List Expr} (h : (es.all nst && decide (es.length < 30)) = true) :
    ((backTo cpos (starEach es env)).all (fun x => !x.1) && (backToKw cpos (keywordEach [] env)).all (fun x => x.1.isSome) && decide (es.length + ([] : List Keyword).length + (if ([] : List Keyword).isEmpty then 0 else 1) < 30)) = true := by
  rw [Bool.and_eq_true] at h
  have h1 := plain_ok (env := env) (pos := cpos) h.1
  have h2 : (backTo cpos (starEach es env)).all (fun x => !x.1) = true := by
    rw [List.all_eq_true]
    intro x hx
    rw [List.any_eq_false] at h1
    simpa using h1 x hx
  have h3 := of_decide_eq_true h.2
  rw [h2]
  show (true && true && decide (es.length + 0 + 0 < 30)) = true
  simpa using h3

/-- nothing that is read in a way of its own -/
def nlc : Expr → Bool
  | .ListComp .. => false
  | .SetComp .. => false
  | .DictComp .. => false
  | _ => true
theorem sw_ns {e : Expr} {t : Option Expr} {l : Nat} {env : Env} (h : nlc e = true) : swapsWith e t l env = pure false := by
  cases e <;> first | rfl | cases h
theorem sws_ns {t e : Expr} {l : Nat} {env : Env} (h : nlc e = true) : swapsWithSole [t] e l env = pure false := sw_ns h
def ntu : Expr → Bool
  | .Tuple .. => false
  | _ => true
theorem sst_ns {ts : List Expr} {e : Expr} {env : Env} (h : ntu e = true) : swappedStores ts e env = pure none := by
  unfold swappedStores
  cases e <;> first | cases h | skip
  all_goals
    cases ts with
    | nil => rfl
    | cons t ts =>
      cases ts with
      | nil => cases t <;> rfl
      | cons u ts => cases t <;> rfl
def nsl : Expr → Bool
  | .Slice .. => false
  | _ => true
theorem ix_ns {e : Expr} (h : nsl e = true) : PlainIx e := fun o i => by
  cases e <;> first | rfl | cases h
def tst : Expr → Bool
  | .UnaryOp .. => false
  | .BoolOp .. => false
  | .IfExp .. => false
  | .Compare .. => false
  | _ => true
theorem it_ns {e : Expr} {env : Env} (h : tst e = true) (whole : Sem Value) : isTrue e env whole = (do let v ← whole; standAt e.pos; holding [v] (truthy v)) := by
  cases e <;> first | rfl | cases h
def nse : Expr → Bool
  | .Set .. => false
  | _ => true
theorem fs_ns {e : Expr} {env : Env} (h : nse e = true) (x : Value) : foldedSetIterable e env x = pure x := by
  cases e <;> first | rfl | cases h
def ncl : Expr → Bool
  | .Call .. => false
  | _ => true
theorem ab_ns {o : Expr} {a : Str} {env : Env} {w : Sem Value} (h : ncl o = true) : attributeBase o a env w = w := by
  cases o <;> first | rfl | cases h

/-! ### names and constants -/
section
variable {X : Cx} {Γ : List B} {pos : Pos} {x : Str}
theorem ed_var (i : Nat) {d : D} (hN : X.N[i]? = some x) (hv : Vis X.env.scope x) (h : Γ[i]? = some (B.d d)) (hd : (x == ("__debug__" : Str)) = false := by decide) (hcd : (x == ("__classdict__" : Str)) = false := by decide) : ED X Γ (.Name x pos) d :=
  ed_of (pe_var hN hv hd hcd) fun F σ G H s Q q => let ⟨v, h1, h2⟩ := s.dat i d h; ⟨v, h1, q v G H (.refl s.sub) h2⟩
/-- one's own list, read -/
theorem el_own (i : Nat) {ds : List D} (hN : X.N[i]? = some x) (hv : Vis X.env.scope x) (h : Γ[i]? = some (B.own (.lst ds))) (hd : (x == ("__debug__" : Str)) = false := by decide) (hcd : (x == ("__classdict__" : Str)) = false := by decide) : EL X Γ (.Name x pos) ds :=
  el_of (pe_var hN hv hd hcd) fun F σ G H s Q q => by
    obtain ⟨p, u, h1, h2, h3, _, h4⟩ := s.own i _ h
    obtain ⟨vs, rfl, ha⟩ := h4.lst
    exact ⟨_, h1, q p vs G H (.refl s.sub) h2 ha⟩
theorem ed_int {i : Int} {j : Nat} : ED X Γ (.Constant (.int i) j pos) (.int i) := ed_of pe_int fun F σ G H s Q q => q _ G H (.refl s.sub) (.int i)
theorem ed_bl {b : Bool} {j : Nat} : ED X Γ (.Constant (.bool b) j pos) (.bl b) := ed_of pe_bl fun F σ G H s Q q => q _ G H (.refl s.sub) (.bl b)
theorem ed_non {j : Nat} : ED X Γ (.Constant .none j pos) .non := ed_of pe_non fun F σ G H s Q q => q _ G H (.refl s.sub) .non
theorem ed_str {z : Str} {j : Nat} (l : List Nat) (h : z = S l) (ho : strOkB l = true) : ED X Γ (.Constant (.str z) j pos) (.str l) := ed_of pe_str fun F σ G H s Q q => q _ G H (.refl s.sub) (by rw [h]; exact .str l (strOk_of ho))
/-- a module's constant -/
theorem ed_gInt {i : Int} (hg : Gl X x) (hm : ∃ t, X.mg x = some (.int i t)) (hd : (x == ("__debug__" : Str)) = false := by decide) : ED X Γ (.Name x pos) (.int i) := by
  obtain ⟨t, hm⟩ := hm
  exact ed_of (pe_glob (v := .int i) hg hm ⟨t, rfl⟩ hd) fun F σ G H s Q q => q _ G H (.refl s.sub) (.int i)
theorem ed_gStr {l : List Nat} (hg : Gl X x) (hm : ∃ t, X.mg x = some (.str (S l) t)) (ho : strOkB l = true) (hd : (x == ("__debug__" : Str)) = false := by decide) : ED X Γ (.Name x pos) (.str l) := by
  obtain ⟨t, hm⟩ := hm
  exact ed_of (pe_glob (v := .str (S l)) hg hm ⟨t, rfl⟩ hd) fun F σ G H s Q q => q _ G H (.refl s.sub) (.str l (strOk_of ho))
/-- a built-in type as a value -/
theorem ed_ty {n : String} (hg : Gl X x) (hm : X.mg x = none) (hv : bootBuiltins x = some (.type n)) (hn : x ≠ "__name__" := by decide) (hd : (x == ("__debug__" : Str)) = false := by decide) : ED X Γ (.Name x pos) (.ty n) :=
  ed_of (pe_bltn (v := .ty n) hg hm hv rfl hn hd) fun F σ G H s Q q => q _ G H (.refl s.sub) (.ty n)
end

/-! ### operators -/
def RV (K : PySem.W.Frag) (r : R2) (x y z : D) : Prop := ∀ v w G H, Ex G H → Is K G v x → Is K G w y → ∀ Q : VK, (∀ u G' H', Grow G H G' H' → Is K G' u z → Q u H') → r v w H Q
def OpD (X : Cx) (f : Value → Value → Sem Value) (x y z : D) : Prop := ∃ r, OpR X f r ∧ RV X.K r x y z
section
variable {X : Cx} {Γ : List B} {pos : Pos} {a b c : Expr} {x y z : D}
theorem ev_op {K : PySem.W.Frag} {r : R2} {ta tb : TE} (ha : EvD K Γ ta x) (hb : EvD K Γ tb y) (hr : RV K r x y z) : EvD K Γ (tOp r ta tb) z := fun F σ G H s Q q =>
  ha F σ G H s _ fun v G1 H1 g1 i1 => hb F σ G1 H1 (s.grow g1) _ fun w G2 H2 g2 i2 => hr v w G2 H2 g2.s (i1.up g2.g) i2 Q fun u G3 H3 g3 i3 => q u G3 H3 ((g1.trans g2).trans g3) i3
theorem ed_op {op : Operator} (ho : OpD X (binaryOp op) x y z) (ha : ED X Γ a x) (hb : ED X Γ b y) : ED X Γ (.BinOp a op b pos) z := by
  obtain ⟨r, h1, h2⟩ := ho
  exact ed_of (pe_op h1 pe_w pe_w) (ev_op ha hb h2)
theorem ed_cmp {op : CmpOp} (ho : OpD X (compareOp op) x y z) (ha : ED X Γ a x) (hb : ED X Γ b y) (hm : behindInMarks op b = false := by first | exact nomark _ | with_unfolding_all rfl) : ED X Γ (.Compare a [op] [b] pos) z := by
  obtain ⟨r, h1, h2⟩ := ho
  exact ed_of (pe_cmpR h1 pe_w pe_w hm) (ev_op ha hb h2)
theorem ev_test {K : PySem.W.Frag} {te : TE} {k : Bool} (h : EvD K Γ te (.bl k)) : EvT K Γ (tTest te) k := fun F σ G H s Q q => h F σ G H s _ fun v G1 H1 g1 i1 => by
  cases i1
  exact ⟨k, rfl, q G1 H1 g1⟩
theorem ev_tB {K : PySem.W.Frag} {te : TE} {k : Bool} (h : EvD K Γ te (.bl k)) : EvT K Γ (tB te) k := fun F σ G H s Q q => h F σ G H s _ fun v G1 H1 g1 i1 => by
  cases i1
  exact ⟨k, rfl, q G1 H1 g1⟩
theorem et_cmp {op : CmpOp} {k : Bool} (ho : OpD X (compareOp op) x y (.bl k)) (ha : ED X Γ a x) (hb : ED X Γ b y) (hm : behindInMarks op b = false := by first | exact nomark _ | with_unfolding_all rfl) : ET X Γ (.Compare a [op] [b] pos) k := by
  obtain ⟨r, h1, h2⟩ := ho
  exact et_of (pt_cmpR h1 pe_w pe_w hm) (ev_test (ev_op ha hb h2))
/-- an expression that comes to a truth, as a test -/
theorem et_val {e : Expr} {k : Bool} (h : ED X Γ e (.bl k)) (he : ∀ whole, isTrue e X.env whole = (do let v ← whole; standAt e.pos; holding [v] (truthy v)) := by exact it_ns rfl) : ET X Γ e k := et_of (pt_val pe_w he) (ev_tB h)
theorem ev_chain {K : PySem.W.Frag} {r r' : R2} {ta tb tc : TE} {k k' : Bool} (ha : EvD K Γ ta x) (hb : EvD K Γ tb y) (hc : EvD K Γ tc z) (hr : RV K r x y (.bl k)) (hr' : RV K r' y z (.bl k')) : EvD K Γ (tChain r r' ta tb tc) (.bl (k && k')) := fun F σ G H s Q q =>
  ha F σ G H s _ fun v G1 H1 g1 i1 => hb F σ G1 H1 (s.grow g1) _ fun w G2 H2 g2 i2 => hr v w G2 H2 g2.s (i1.up g2.g) i2 _ fun u G3 H3 g3 i3 => by
    cases i3
    refine ⟨k, rfl, ?_⟩
    cases k with
    | true => exact hc F σ G3 H3 (((s.grow g1).grow g2).grow g3) _ fun w' G4 H4 g4 i4 => hr' w w' G4 H4 g4.s (i2.up (g3.g.trans g4.g)) i4 Q fun u' G5 H5 g5 i5 => q u' G5 H5 ((((g1.trans g2).trans g3).trans g4).trans g5) i5
    | false => exact q _ G3 H3 ((g1.trans g2).trans g3) (.bl _)
theorem ed_chain {op op' : CmpOp} {k k' : Bool} (ho : OpD X (compareOp op) x y (.bl k)) (ho' : OpD X (compareOp op') y z (.bl k')) (ha : ED X Γ a x) (hb : ED X Γ b y) (hc : ED X Γ c z) (hm : lastMarks [op, op'] [b, c] = false := by with_unfolding_all rfl) :
    ED X Γ (.Compare a [op, op'] [b, c] pos) (.bl (k && k')) := by
  obtain ⟨r, h1, h2⟩ := ho
  obtain ⟨r', h3, h4⟩ := ho'
  exact ed_of (pe_chain h1 h3 pe_w pe_w pe_w hm) (ev_chain ha hb hc h2 h4)
theorem et_chain {op op' : CmpOp} {k k' : Bool} (ho : OpD X (compareOp op) x y (.bl k)) (ho' : OpD X (compareOp op') y z (.bl k')) (ha : ED X Γ a x) (hb : ED X Γ b y) (hc : ED X Γ c z) (hm : lastMarks [op, op'] [b, c] = false := by with_unfolding_all rfl) :
    ET X Γ (.Compare a [op, op'] [b, c] pos) (k && k') := by
  obtain ⟨r, h1, h2⟩ := ho
  obtain ⟨r', h3, h4⟩ := ho'
  exact et_of (pt_chain h1 h3 pe_w pe_w pe_w hm) (ev_test (ev_chain ha hb hc h2 h4))

/-! ### and, or, not: as values (truths), as tests -/
variable {rest : List Expr} {k k' : Bool}
theorem ed_and (ha : ED X Γ a (.bl k)) (hb : k = true → ED X Γ (.BoolOp .And (b :: rest) pos) (.bl k')) : ED X Γ (.BoolOp .And (a :: b :: rest) pos) (.bl (k && k')) :=
  ed_of (pe_and pe_w pe_w) fun F σ G H s Q q => ha F σ G H s _ fun v G1 H1 g1 i1 => by
    cases i1
    refine ⟨k, rfl, ?_⟩
    cases k with
    | true => exact hb rfl F σ G1 H1 (s.grow g1) _ fun v G2 H2 g2 i2 => q v G2 H2 (g1.trans g2) i2
    | false => exact q _ G1 H1 g1 (.bl _)
theorem ed_or (ha : ED X Γ a (.bl k)) (hb : k = false → ED X Γ (.BoolOp .Or (b :: rest) pos) (.bl k')) : ED X Γ (.BoolOp .Or (a :: b :: rest) pos) (.bl (k || k')) :=
  ed_of (pe_or pe_w pe_w) fun F σ G H s Q q => ha F σ G H s _ fun v G1 H1 g1 i1 => by
    cases i1
    refine ⟨k, rfl, ?_⟩
    cases k with
    | false => exact hb rfl F σ G1 H1 (s.grow g1) _ fun v G2 H2 g2 i2 => q v G2 H2 (g1.trans g2) i2
    | true => exact q _ G1 H1 g1 (.bl _)
theorem ed_one {op : BoolOp} (ha : ED X Γ a x) : ED X Γ (.BoolOp op [a] pos) x := ed_of (pe_one pe_w) ha
theorem ed_not (ha : ED X Γ a (.bl k)) : ED X Γ (.UnaryOp .Not a pos) (.bl (!k)) := ed_of (pe_not pe_w) fun F σ G H s Q q => ha F σ G H s _ fun v G1 H1 g1 i1 => by
  cases i1
  exact ⟨k, rfl, q _ G1 H1 g1 (.bl _)⟩
theorem ew_and (ha : ET X Γ a k) (hb : k = true → EW X Γ (.BoolOp .And (b :: rest) pos) k') : EW X Γ (.BoolOp .And (a :: b :: rest) pos) (k && k') :=
  ew_of (pw_and pt_w pw_w) fun F σ G H s Q q => ha F σ G H s _ fun G1 H1 g1 => by
    cases k with
    | true => exact hb rfl F σ G1 H1 (s.grow g1) _ fun G2 H2 g2 => q G2 H2 (g1.trans g2)
    | false => exact q G1 H1 g1
theorem ew_or (ha : ET X Γ a k) (hb : k = false → EW X Γ (.BoolOp .Or (b :: rest) pos) k') : EW X Γ (.BoolOp .Or (a :: b :: rest) pos) (k || k') :=
  ew_of (pw_or pt_w pw_w) fun F σ G H s Q q => ha F σ G H s _ fun G1 H1 g1 => by
    cases k with
    | false => exact hb rfl F σ G1 H1 (s.grow g1) _ fun G2 H2 g2 => q G2 H2 (g1.trans g2)
    | true => exact q G1 H1 g1
theorem ew_and1 (ha : ET X Γ a k) : EW X Γ (.BoolOp .And [a] pos) k := ew_of (pw_and1 pt_w) ha
theorem ew_or1 (ha : ET X Γ a k) : EW X Γ (.BoolOp .Or [a] pos) k := ew_of (pw_or1 pt_w) ha
theorem et_w (h : EW X Γ a k) : ET X Γ a k := et_of pw_w.pt h
theorem et_not (ha : ET X Γ a k) : ET X Γ (.UnaryOp .Not a pos) (!k) := et_of (pt_not pt_w) fun F σ G H s Q q => ha F σ G H s _ fun G1 H1 g1 => q G1 H1 g1
theorem ed_if {α : Type} {f : α → D} {u v : α} (ht : ET X Γ c k) (ha : k = true → ED X Γ a (f u)) (hb : k = false → ED X Γ b (f v)) : ED X Γ (.IfExp c a b pos) (f (if k = true then u else v)) :=
  ed_of (pe_ifExp pt_w pe_w pe_w) fun F σ G H s Q q => ht F σ G H s _ fun G1 H1 g1 => by
    cases k with
    | true => exact ha rfl F σ G1 H1 (s.grow g1) _ fun v G2 H2 g2 i2 => q v G2 H2 (g1.trans g2) i2
    | false => exact hb rfl F σ G1 H1 (s.grow g1) _ fun v G2 H2 g2 i2 => q v G2 H2 (g1.trans g2) i2
end

/-! ### single operators -/
section
variable {X : Cx}
theorem rv_int {K : PySem.W.Frag} {r : R2} {i j : Int} {z : D} {u : V} (hz : ∀ G, Is K G u z) (h : ∀ H Q, Q u H → r (.int i) (.int j) H Q) : RV K r (.int i) (.int j) z := fun v w G H e iv iw Q q => by
  cases iv
  cases iw
  exact h H Q (q u G H (.refl e) (hz G))
theorem od_add (i j : Int) : OpD X (binaryOp .Add) (.int i) (.int j) (.int (i + j)) := ⟨_, op_add, rv_int (fun _ => .int _) fun H Q q => ⟨i, j, rfl, rfl, q⟩⟩
theorem od_sub (i j : Int) : OpD X (binaryOp .Sub) (.int i) (.int j) (.int (i - j)) := ⟨_, op_sub, rv_int (fun _ => .int _) fun H Q q => ⟨i, j, rfl, rfl, q⟩⟩
theorem od_mul (i j : Int) (h : CMul i j) : OpD X (binaryOp .Mult) (.int i) (.int j) (.int (i * j)) := ⟨_, op_mul, rv_int (fun _ => .int _) fun H Q q => ⟨i, j, rfl, rfl, h, q⟩⟩
theorem od_mulW (i j : Int) (h : CMulW i j) : OpD X (binaryOp .Mult) (.int i) (.int j) (.int (i * j)) := ⟨_, op_mulW, rv_int (fun _ => .int _) fun H Q q => ⟨i, j, rfl, rfl, h, q⟩⟩
theorem od_div (i j : Int) (h : CDiv i j) : OpD X (binaryOp .FloorDiv) (.int i) (.int j) (.int (i / j)) := ⟨_, op_fdiv, rv_int (fun _ => .int _) fun H Q q => ⟨i, j, rfl, rfl, h, q⟩⟩
theorem od_divW (i j : Int) (h : CDivW i j) : OpD X (binaryOp .FloorDiv) (.int i) (.int j) (.int (i / j)) := ⟨_, op_fdivW, rv_int (fun _ => .int _) fun H Q q => ⟨i, j, rfl, rfl, h, q⟩⟩
theorem od_mod (i j : Int) (h : 0 < j) : OpD X (binaryOp .Mod) (.int i) (.int j) (.int (i % j)) := ⟨_, op_mod, rv_int (fun _ => .int _) fun H Q q => ⟨i, j, rfl, rfl, h, q⟩⟩
theorem od_shr (i j : Int) (h : 0 ≤ j) : OpD X (binaryOp .RShift) (.int i) (.int j) (.int (i / 2 ^ j.toNat)) := ⟨_, op_shr, rv_int (fun _ => .int _) fun H Q q => ⟨i, j, rfl, rfl, h, q⟩⟩
theorem od_shl1 (k : Nat) (h : k ≤ 134217727) : OpD X (binaryOp .LShift) (.int 1) (.int (k : Int)) (.int (2 ^ k)) := ⟨_, op_oneShl, rv_int (fun _ => .int _) fun H Q q => ⟨k, rfl, rfl, h, q⟩⟩
theorem od_pow (i j : Int) (h : CPow i j) : OpD X (binaryOp .Pow) (.int i) (.int j) (.int (i ^ j.toNat)) := ⟨_, op_pow, rv_int (fun _ => .int _) fun H Q q => ⟨i, j, rfl, rfl, h, q⟩⟩
theorem od_andM (i j : Int) (k : Nat) (h : j = 2 ^ k - 1) : OpD X (binaryOp .BitAnd) (.int i) (.int j) (.int (i % 2 ^ k)) := ⟨_, op_andM, rv_int (fun _ => .int _) fun H Q q => ⟨i, k, rfl, by rw [h], q⟩⟩
theorem od_or (i j : Int) : OpD X (binaryOp .BitOr) (.int i) (.int j) (.int (Builtin.bitOr i j)) := ⟨_, op_or, rv_int (fun _ => .int _) fun H Q q => ⟨i, j, rfl, rfl, q⟩⟩
theorem od_lt (i j : Int) : OpD X (compareOp .Lt) (.int i) (.int j) (.bl (decide (i < j))) := ⟨_, op_lt, rv_int (fun _ => .bl _) fun H Q q => ⟨i, j, rfl, rfl, q⟩⟩
theorem od_le (i j : Int) : OpD X (compareOp .LtE) (.int i) (.int j) (.bl (decide (i ≤ j))) := ⟨_, op_le, rv_int (fun _ => .bl _) fun H Q q => ⟨i, j, rfl, rfl, q⟩⟩
theorem od_gt (i j : Int) : OpD X (compareOp .Gt) (.int i) (.int j) (.bl (decide (j < i))) := ⟨_, op_gt, rv_int (fun _ => .bl _) fun H Q q => ⟨i, j, rfl, rfl, q⟩⟩
theorem od_ge (i j : Int) : OpD X (compareOp .GtE) (.int i) (.int j) (.bl (decide (j ≤ i))) := ⟨_, op_ge, rv_int (fun _ => .bl _) fun H Q q => ⟨i, j, rfl, rfl, q⟩⟩
theorem dec_iff {p q : Prop} [Decidable p] [Decidable q] (h : p ↔ q) : decide p = decide q := by
  by_cases hp : p
  · rw [decide_eq_true hp, decide_eq_true (h.mp hp)]
  · rw [decide_eq_false hp, decide_eq_false fun z => hp (h.mpr z)]
theorem S_inj {l m : List Nat} : S l = S m ↔ l = m := ⟨fun h => by have := congrArg (fun z : Str => z.cps.toList) h; simpa using this, fun h => by rw [h]⟩
theorem od_eqI (i j : Int) : OpD X (compareOp .Eq) (.int i) (.int j) (.bl (decide (i = j))) := ⟨_, op_eq, rv_int (fun _ => .bl _) fun H Q q => ⟨rfl, by rw [dec_iff (show V.int i = V.int j ↔ i = j from ⟨fun z => V.int.inj z, fun z => by rw [z]⟩)]; exact q⟩⟩
theorem od_neI (i j : Int) : OpD X (compareOp .NotEq) (.int i) (.int j) (.bl (!decide (i = j))) := ⟨_, op_ne, rv_int (fun _ => .bl _) fun H Q q => ⟨rfl, by rw [dec_iff (show V.int i = V.int j ↔ i = j from ⟨fun z => V.int.inj z, fun z => by rw [z]⟩)]; exact q⟩⟩
theorem rv_str {K : PySem.W.Frag} {r : R2} {i j : List Nat} {z : D} {u : V} (hz : StrOk i → StrOk j → ∀ G, Is K G u z) (h : ∀ H Q, Q u H → r (.str (S i)) (.str (S j)) H Q) : RV K r (.str i) (.str j) z := fun v w G H e iv iw Q q => by
  have a := iv.strOk
  have b := iw.strOk
  cases iv
  cases iw
  exact h H Q (q u G H (.refl e) (hz a b G))
theorem dec_str (i j : List Nat) : decide (V.str (S i) = V.str (S j)) = decide (i = j) := dec_iff ⟨fun z => S_inj.mp (V.str.inj z), fun z => by rw [z]⟩
theorem od_eqS (i j : List Nat) : OpD X (compareOp .Eq) (.str i) (.str j) (.bl (decide (i = j))) := ⟨_, op_eq, rv_str (fun _ _ _ => .bl _) fun H Q q => ⟨rfl, by rw [dec_str]; exact q⟩⟩
theorem od_neS (i j : List Nat) : OpD X (compareOp .NotEq) (.str i) (.str j) (.bl (!decide (i = j))) := ⟨_, op_ne, rv_str (fun _ _ _ => .bl _) fun H Q q => ⟨rfl, by rw [dec_str]; exact q⟩⟩
theorem dec_bl (i j : Bool) : decide (V.bl i = V.bl j) = decide (i = j) := dec_iff ⟨fun z => V.bl.inj z, fun z => by rw [z]⟩
theorem od_eqB (i j : Bool) : OpD X (compareOp .Eq) (.bl i) (.bl j) (.bl (decide (i = j))) := ⟨_, op_eq, fun v w G H e iv iw Q q => by
  cases iv
  cases iw
  exact ⟨rfl, by rw [dec_bl]; exact q _ G H (.refl e) (.bl _)⟩⟩
theorem od_neB (i j : Bool) : OpD X (compareOp .NotEq) (.bl i) (.bl j) (.bl (!decide (i = j))) := ⟨_, op_ne, fun v w G H e iv iw Q q => by
  cases iv
  cases iw
  exact ⟨rfl, by rw [dec_bl]; exact q _ G H (.refl e) (.bl _)⟩⟩
theorem S_app (i j : List Nat) : S i ++ S j = S (i ++ j) := by
  show Str.mk (i.toArray ++ j.toArray) = Str.mk (i ++ j).toArray
  simp
theorem S_len (i : List Nat) : (S i).length = i.length := by simp [S, Str.length]
theorem od_addS (i j : List Nat) (h : i.length + j.length ≤ LMax) : OpD X (binaryOp .Add) (.str i) (.str j) (.str (i ++ j)) := ⟨_, op_add_str, rv_str (fun a b _ => .str _ ⟨by rw [List.length_append]; exact h, chrOk_app a.chr b.chr⟩) fun H Q q => ⟨_, _, rfl, rfl, by rw [S_len, S_len]; unfold LMax at h; rw [sizeLine_eq]; omega, by rw [S_app]; exact q⟩⟩
/-- one sign in a text -/
theorem od_inS (c : Nat) (j : List Nat) : OpD X (compareOp .In) (.str [c]) (.str j) (.bl (decide (c ∈ j))) := ⟨_, op_in_sign, rv_str (fun _ _ _ => .bl _) fun H Q q => ⟨c, _, rfl, rfl, by simpa using q⟩⟩
theorem od_notInS (c : Nat) (j : List Nat) : OpD X (compareOp .NotIn) (.str [c]) (.str j) (.bl (!decide (c ∈ j))) := ⟨_, op_notIn_sign, rv_str (fun _ _ _ => .bl _) fun H Q q => ⟨c, _, rfl, rfl, by simpa using q⟩⟩
/-- is None -/
def isNon : D → Bool
  | .non => true
  | _ => false
theorem isNon_iff {K : PySem.W.Frag} {G : Hp} {v : V} {d : D} (h : Is K G v d) : decide (v = .non) = isNon d := by
  cases h <;> rfl
theorem od_isN (x : D) : OpD X (compareOp .Is) x .non (.bl (isNon x)) := ⟨_, op_isN, fun v w G H e iv iw Q q => by
  cases iw
  exact ⟨rfl, by rw [isNon_iff iv]; exact q _ G H (.refl e) (.bl _)⟩⟩
theorem od_notN (x : D) : OpD X (compareOp .IsNot) x .non (.bl (!isNon x)) := ⟨_, op_notN, fun v w G H e iv iw Q q => by
  cases iw
  exact ⟨rfl, by rw [isNon_iff iv]; exact q _ G H (.refl e) (.bl _)⟩⟩
end
section
variable {X : Cx} {Γ : List B} {pos : Pos} {a : Expr}
theorem ed_neg {i : Int} (ha : ED X Γ a (.int i)) : ED X Γ (.UnaryOp .USub a pos) (.int (-i)) := ed_of (pe_un un_neg pe_w) fun F σ G H s Q q => ha F σ G H s _ fun v G1 H1 g1 i1 => by
  cases i1
  exact ⟨i, rfl, q _ G1 H1 g1 (.int _)⟩
end

/-! ### lists, tuples -/
section
variable {X : Cx} {Γ : List B} {pos : Pos} {a b : Expr} {e : Expr} {es : List Expr} {x : D} {ds ds' : List D}
theorem ea_nil : EA X Γ [] [] := ea_of pa_nil fun F σ G H s Q q => q [] G H (.refl s.sub) .nil
theorem ea_cons (h : ED X Γ e x) (ht : EA X Γ es ds) (he : starEach (e :: es) X.env = (false, eval e X.env) :: starEach es X.env := by exact starEach_ns rfl) : EA X Γ (e :: es) (x :: ds) :=
  ea_of (pa_cons pe_w pa_w he) fun F σ G H s Q q => h F σ G H s _ fun v G1 H1 g1 i1 => ht F σ G1 H1 (s.grow g1) _ fun vs G2 H2 g2 i2 => q _ G2 H2 (g1.trans g2) (.cons (i1.up g2.g) i2)
theorem ed_tup {k : Nat} (h : EA X Γ es ds) (hl : ds.length ≤ sizeLine) : ED X Γ (.Tuple es k pos) (.tup ds) := ed_of (pe_tup pa_w) fun F σ G H s Q q => h F σ G H s _ fun vs G1 H1 g1 i1 =>
  ⟨by rw [i1.len]; exact hl, fun p hp => q _ _ _ (g1.trans (Grow.new g1.s hp)) (.tup (Or.inl (Or.inl upd_same)) (i1.up (Evl.Ex.new (Evl.fresh_back g1.s hp))))⟩
theorem eo_lst (h : EA X Γ es ds) (hl : ds.length ≤ sizeLine) : EO X Γ (.List es pos) (.lst ds) := eo_of (pe_lst pa_w) fun F σ G H s Q q => h F σ G H s _ fun vs G1 H1 g1 i1 =>
  ⟨by rw [i1.len]; exact hl, fun p hp => q _ _ _ _ (g1.trans (Grow.lay g1.s hp)) upd_same (Evl.fresh_back g1.s hp) (Evl.fresh_back g1.h hp) i1⟩
theorem atI_map {α β : Type} {f : α → β} {xs : List α} {i : Int} {y : α} (h : atI xs i = some y) : atI (xs.map f) i = some (f y) := by
  unfold atI at h ⊢
  rw [List.length_map]
  cases hi : ixN xs.length i with
  | none =>
    rw [hi] at h
    cases h
  | some j =>
    rw [hi] at h
    have h' : xs[j]? = some y := h
    show (xs.map f)[j]? = some (f y)
    rw [List.getElem?_map, h']
    rfl
theorem IsAll.atI {K : PySem.W.Frag} {G : Hp} {vs : List V} {i : Int} (h : IsAll K G vs ds) (e : L2.atI ds i = some x) : ∃ v, L2.atI vs i = some v ∧ Is K G v x := by
  unfold L2.atI at e ⊢
  rw [h.len]
  cases hi : ixN ds.length i with
  | none =>
    rw [hi] at e
    cases e
  | some j =>
    rw [hi] at e
    exact h.get (show ds[j]? = some x from e)
theorem ed_ixL {i : Int} (ha : EL X Γ a ds) (hb : ED X Γ b (.int i)) (h : atI ds i = some x) (hs : PlainIx b := by exact ix_ns rfl) : ED X Γ (.Subscript a b pos) x :=
  ed_of (pe_ix ix_list pe_w pe_w hs) fun F σ G H s Q q => ha F σ G H s _ fun p vs G1 H1 g1 h1 i1 => hb F σ G1 H1 (s.grow g1) _ fun w G2 H2 g2 i2 => by
    cases i2
    obtain ⟨v, e1, e2⟩ := i1.atI h
    exact ⟨p, vs, i, v, rfl, rfl, .inl (.inl (g2.h _ _ h1)), e1, q v G2 H2 (g1.trans g2) (e2.up g2.g)⟩
theorem ed_ixT {i : Int} (ha : ED X Γ a (.tup ds)) (hb : ED X Γ b (.int i)) (h : atI ds i = some x) (hs : PlainIx b := by exact ix_ns rfl) : ED X Γ (.Subscript a b pos) x :=
  ed_of (pe_ix ix_tup pe_w pe_w hs) fun F σ G H s Q q => ha F σ G H s _ fun v G1 H1 g1 i1 => hb F σ G1 H1 (s.grow g1) _ fun w G2 H2 g2 i2 => by
    cases i1 with
    | tup h1 h2 =>
      cases i2
      obtain ⟨v, e1, e2⟩ := h2.atI h
      exact ⟨_, _, i, v, rfl, rfl, Evl.ex_t (g2.g.trans g2.s) h1, e1, q v G2 H2 (g1.trans g2) (e2.up g2.g)⟩
theorem ed_ixS {i : Int} {l : List Nat} {c : Nat} (ha : ED X Γ a (.str l)) (hb : ED X Γ b (.int i)) (h : atI l i = some c) (hs : PlainIx b := by exact ix_ns rfl) : ED X Γ (.Subscript a b pos) (.str [c]) :=
  ed_of (pe_ix ix_str pe_w pe_w hs) fun F σ G H s Q q => ha F σ G H s _ fun v G1 H1 g1 i1 => hb F σ G1 H1 (s.grow g1) _ fun w G2 H2 g2 i2 => by
    have a := i1.strOk
    cases i1
    cases i2
    exact ⟨_, i, c, rfl, rfl, by rw [S_len]; exact a.le, by simpa using h, q _ G2 H2 (g1.trans g2) (.str [c] (a.one (at_mem h)))⟩
/-! slices -/
def EPo (X : Cx) (Γ : List B) (o : Option Expr) (i : Option Int) : Prop := ∃ t, PO X o t ∧ EvP X.K Γ t i
theorem ep_none : EPo X Γ none none := ⟨_, po_none, fun F σ G H s Q q => q G H (.refl s.sub)⟩
theorem ep_some {i : Int} (h : ED X Γ e (.int i)) : EPo X Γ (some e) (some i) := ⟨_, po_some pe_w, fun F σ G H s Q q => h F σ G H s _ fun v G1 H1 g1 i1 => by
  cases i1
  exact ⟨i, rfl, q G1 H1 g1⟩⟩
theorem eo_slL {lo hi : Option Expr} {i j : Option Int} {p2 : Pos} (ha : EL X Γ a ds) (hl : EPo X Γ lo i) (hu : EPo X Γ hi j) : EO X Γ (.Subscript a (.Slice lo hi none p2) pos) (.lst (cutL ds i j)) := by
  obtain ⟨tl, k1, k2⟩ := hl
  obtain ⟨tu, k3, k4⟩ := hu
  refine eo_of (pe_slice sl_list pe_w k1 k3) fun F σ G H s Q q => ha F σ G H s _ fun p vs G1 H1 g1 h1 i1 => k2 F σ G1 H1 (s.grow g1) _ fun G2 H2 g2 => k4 F σ G2 H2 ((s.grow g1).grow g2) _ fun G3 H3 g3 => ?_
  have g := (g1.trans g2).trans g3
  refine ⟨p, vs, rfl, .inl (.inl (g3.h _ _ (g2.h _ _ h1))), fun l hl => q l _ G3 _ (g.trans (Grow.lay g3.s hl)) upd_same (Evl.fresh_back g3.s hl) (Evl.fresh_back g.h hl) ?_⟩
  have i3 := i1.up (g2.g.trans g3.g)
  show IsAll _ _ (cutV vs i j) (cutL ds i j)
  unfold cutV cutL
  rw [i3.len]
  exact (i3.drop _).take _
theorem ed_slS {lo hi : Option Expr} {i j : Option Int} {p2 : Pos} {l : List Nat} (ha : ED X Γ a (.str l)) (hl : EPo X Γ lo i) (hu : EPo X Γ hi j) : ED X Γ (.Subscript a (.Slice lo hi none p2) pos) (.str (cutL l i j)) := by
  obtain ⟨tl, k1, k2⟩ := hl
  obtain ⟨tu, k3, k4⟩ := hu
  refine ed_of (pe_slice sl_str pe_w k1 k3) fun F σ G H s Q q => ha F σ G H s _ fun v G1 H1 g1 i1 => k2 F σ G1 H1 (s.grow g1) _ fun G2 H2 g2 => k4 F σ G2 H2 ((s.grow g1).grow g2) _ fun G3 H3 g3 => ?_
  have a := i1.strOk
  cases i1
  refine ⟨_, rfl, by rw [S_len]; exact a.le, ?_⟩
  have e : cutS (S l) i j = S (cutL l i j) := by
    unfold cutS cutL
    rw [S_len]
  rw [e]
  exact q _ G3 H3 ((g1.trans g2).trans g3) (.str _ (a.cut _ _))
/-! + and * of lists -/
theorem eo_cat (ha : EL X Γ a ds) (hb : EL X Γ b ds') (hl : ds.length + ds'.length ≤ sizeLine) : EO X Γ (.BinOp a .Add b pos) (.lst (ds ++ ds')) :=
  eo_of (pe_op op_cat pe_w pe_w) fun F σ G H s Q q => ha F σ G H s _ fun p vs G1 H1 g1 h1 i1 => hb F σ G1 H1 (s.grow g1) _ fun p' ws G2 H2 g2 h2 i2 =>
    ⟨p, p', vs, ws, rfl, rfl, g2.h _ _ h1, h2, by rw [i1.len, i2.len]; exact hl, fun l hl => q l _ G2 _ ((g1.trans g2).trans (Grow.lay g2.s hl)) upd_same (Evl.fresh_back g2.s hl) (Evl.fresh_back (g1.trans g2).h hl) ((i1.up g2.g).app i2)⟩
theorem IsAll.rep {K : PySem.W.Frag} {G : Hp} {vs : List V} (h : IsAll K G vs ds) : ∀ n : Nat, IsAll K G (List.replicate n vs).flatten (List.replicate n ds).flatten
  | 0 => .nil
  | n + 1 => by
    rw [List.replicate_succ, List.replicate_succ, List.flatten_cons, List.flatten_cons]
    exact h.app (h.rep n)
theorem eo_rep {k : Int} (ha : EL X Γ a ds) (hb : ED X Γ b (.int k)) (h1 : -(2 ^ 63) ≤ k ∧ k < 2 ^ 63) (hl : ds.length * k.toNat ≤ sizeLine) : EO X Γ (.BinOp a .Mult b pos) (.lst (List.replicate k.toNat ds).flatten) :=
  eo_of (pe_op op_rep pe_w pe_w) fun F σ G H s Q q => ha F σ G H s _ fun p vs G1 H1 g1 e1 i1 => hb F σ G1 H1 (s.grow g1) _ fun w G2 H2 g2 i2 => by
    cases i2
    exact ⟨p, k, vs, rfl, rfl, g2.h _ _ e1, h1.1, h1.2, by rw [i1.len]; exact hl, fun l hl => q l _ G2 _ ((g1.trans g2).trans (Grow.lay g2.s hl)) upd_same (Evl.fresh_back g2.s hl) (Evl.fresh_back (g1.trans g2).h hl) ((i1.up g2.g).rep _)⟩
end

/-! ### built-ins -/
section
variable {X : Cx} {Γ : List B} {pos p : Pos} {a b : Expr} {e : Expr} {es : List Expr} {x : D} {ds ds' : List D}
theorem ev_cb1 {K : PySem.W.Frag} {r : List V → Hp → VK → Prop} {ta : TA} {z : D} (ha : EvA K Γ ta ds) (hr : ∀ vs G H, Ex G H → IsAll K G vs ds → ∀ Q : VK, (∀ u G' H', Grow G H G' H' → Is K G' u z → Q u H') → r vs H Q) : EvD K Γ (tCB r ta) z := fun F σ G H s Q q =>
  ha F σ G H s _ fun vs G1 H1 g1 i1 => hr vs G1 H1 g1.s i1 Q fun u G2 H2 g2 i2 => q u G2 H2 (g1.trans g2) i2
/-- f(e, ..), f a built-in whose answer hangs on the data alone -/
theorem ed_callB {f : String} {nm : Str} {r : List V → Hp → VK → Prop} {z : D} (hc : CallR X (.builtin f) r) (hg : Gl X nm) (hm : X.mg nm = none) (hv : bootBuiltins nm = some (.builtin f)) (ha : EA X Γ (e :: es) ds)
    (hr : ∀ vs G H, Ex G H → IsAll X.K G vs ds → ∀ Q : VK, (∀ u G' H', Grow G H G' H' → Is X.K G' u z → Q u H') → r vs H Q)
    (hn : nm ≠ "__name__" := by decide) (hdb : (nm == ("__debug__" : Str)) = false := by decide) (he : starEach (e :: es) X.env = (false, eval e X.env) :: starEach es X.env := by exact starEach_ns rfl) (hpl : (backTo pos (starEach es X.env)).any (·.1) = false := by exact plain_ok rfl) :
    ED X Γ (.Call (.Name nm p) (e :: es) [] pos) z := ed_of (pe_callB hc hg hm hv pa_w hn hdb he hpl) (ev_cb1 ha hr)
theorem ed_callTy {f : String} {nm : Str} {r : List V → Hp → VK → Prop} {z : D} (hc : CallR X (.type f) r) (hg : Gl X nm) (hm : X.mg nm = none) (hv : bootBuiltins nm = some (.type f)) (ha : EA X Γ (e :: es) ds)
    (hr : ∀ vs G H, Ex G H → IsAll X.K G vs ds → ∀ Q : VK, (∀ u G' H', Grow G H G' H' → Is X.K G' u z → Q u H') → r vs H Q)
    (hn : nm ≠ "__name__" := by decide) (hdb : (nm == ("__debug__" : Str)) = false := by decide) (he : starEach (e :: es) X.env = (false, eval e X.env) :: starEach es X.env := by exact starEach_ns rfl) (hpl : (backTo pos (starEach es X.env)).any (·.1) = false := by exact plain_ok rfl) :
    ED X Γ (.Call (.Name nm p) (e :: es) [] pos) z := ed_of (pe_callTy hc hg hm hv pa_w hn hdb he hpl) (ev_cb1 ha hr)
theorem ed_lenS {l : List Nat} (hg : Gl X "len") (hm : X.mg "len" = none) (ha : ED X Γ a (.str l)) (he : starEach [a] X.env = (false, eval a X.env) :: starEach [] X.env := by exact starEach_ns rfl) (hpl : (backTo pos (starEach [] X.env)).any (·.1) = false := by exact plain_ok rfl) : ED X Γ (.Call (.Name "len" p) [a] [] pos) (.int l.length) :=
  ed_callB call_len_str hg hm boot_len (ea_cons ha ea_nil he) (fun vs G H ex i Q q => by
    cases i with
    | cons i1 i2 =>
      have ok := i1.strOk
      cases i1
      cases i2
      refine ⟨_, rfl, by rw [S_len]; exact ok.le, ?_⟩
      rw [S_len]
      exact q _ G H (.refl ex) (.int _)) (by decide) (by decide) he hpl
theorem ed_lenT (hg : Gl X "len") (hm : X.mg "len" = none) (ha : ED X Γ a (.tup ds)) (he : starEach [a] X.env = (false, eval a X.env) :: starEach [] X.env := by exact starEach_ns rfl) (hpl : (backTo pos (starEach [] X.env)).any (·.1) = false := by exact plain_ok rfl) : ED X Γ (.Call (.Name "len" p) [a] [] pos) (.int ds.length) :=
  ed_callB call_len_seq hg hm boot_len (ea_cons ha ea_nil he) (fun vs G H ex i Q q => by
    cases i with
    | cons i1 i2 =>
      cases i2
      cases i1 with
      | tup h1 h2 =>
        refine ⟨_, _, rfl, .inr (Evl.ex_t ex h1), ?_⟩
        rw [h2.len]
        exact q _ G H (.refl ex) (.int _)) (by decide) (by decide) he hpl
theorem ed_lenL (hg : Gl X "len") (hm : X.mg "len" = none) (ha : EL X Γ a ds) (he : starEach [a] X.env = (false, eval a X.env) :: starEach [] X.env := by exact starEach_ns rfl) (hpl : (backTo pos (starEach [] X.env)).any (·.1) = false := by exact plain_ok rfl) : ED X Γ (.Call (.Name "len" p) [a] [] pos) (.int ds.length) :=
  ed_of (pe_callB call_len_seq hg hm boot_len (pa_cons pe_w pa_nil he) (by decide) (by decide) he hpl) fun F σ G H s Q q => ha F σ G H s _ fun p vs G1 H1 g1 h1 i1 => by
    refine ⟨p, vs, rfl, .inl (.inl (.inl h1)), ?_⟩
    rw [i1.len]
    exact q _ G1 H1 g1 (.int _)
/-- len of the script -/
theorem ed_lenScr {ns : List Int} (hg : Gl X "len") (hm : X.mg "len" = none) (ha : ED X Γ a (.scr ns)) (he : starEach [a] X.env = (false, eval a X.env) :: starEach [] X.env := by exact starEach_ns rfl) (hpl : (backTo pos (starEach [] X.env)).any (·.1) = false := by exact plain_ok rfl) : ED X Γ (.Call (.Name "len" p) [a] [] pos) (.int ns.length) :=
  ed_callB call_len_seq hg hm boot_len (ea_cons ha ea_nil he) (fun vs G H ex i Q q => by
    cases i with
    | cons i1 i2 =>
      cases i2
      cases i1 with
      | scr h1 =>
        refine ⟨_, _, rfl, .inl (Evl.ex_l ex h1), ?_⟩
        rw [List.length_map]
        exact q _ G H (.refl ex) (.int _)) (by decide) (by decide) he hpl
theorem ed_ixScr {i : Int} {ns : List Int} {n : Int} (ha : ED X Γ a (.scr ns)) (hb : ED X Γ b (.int i)) (h : atI ns i = some n) (hs : PlainIx b := by exact ix_ns rfl) : ED X Γ (.Subscript a b pos) (.int n) :=
  ed_of (pe_ix ix_list pe_w pe_w hs) fun F σ G H s Q q => ha F σ G H s _ fun v G1 H1 g1 i1 => hb F σ G1 H1 (s.grow g1) _ fun w G2 H2 g2 i2 => by
    cases i1 with
    | scr h1 =>
      cases i2
      exact ⟨_, _, i, .int n, rfl, rfl, Evl.ex_l (g2.g.trans g2.s) h1, atI_map h, q _ G2 H2 (g1.trans g2) (.int n)⟩
theorem ed_max2 {i j : Int} (hc : X.calm = true) (hg : Gl X "max") (hm : X.mg "max" = none) (ha : ED X Γ a (.int i)) (hb : ED X Γ b (.int j)) (he : starEach [a, b] X.env = (false, eval a X.env) :: starEach [b] X.env := by exact starEach_ns rfl) (he2 : starEach [b] X.env = (false, eval b X.env) :: starEach [] X.env := by exact starEach_ns rfl) (hpl : (backTo pos (starEach [b] X.env)).any (·.1) = false := by exact plain_ok rfl) : ED X Γ (.Call (.Name "max" p) [a, b] [] pos) (.int (if j > i then j else i)) :=
  ed_callB (call_max2 hc) hg hm (by decide +kernel) (ea_cons ha (ea_cons hb ea_nil he2) he) (fun vs G H ex i Q q => by
    cases i with
    | cons i1 i2 =>
      cases i2 with
      | cons i2 i3 =>
        cases i1
        cases i2
        cases i3
        exact ⟨_, _, rfl, q _ G H (.refl ex) (.int _)⟩) (by decide) (by decide) he hpl
theorem ed_min2 {i j : Int} (hc : X.calm = true) (hg : Gl X "min") (hm : X.mg "min" = none) (ha : ED X Γ a (.int i)) (hb : ED X Γ b (.int j)) (he : starEach [a, b] X.env = (false, eval a X.env) :: starEach [b] X.env := by exact starEach_ns rfl) (he2 : starEach [b] X.env = (false, eval b X.env) :: starEach [] X.env := by exact starEach_ns rfl) (hpl : (backTo pos (starEach [b] X.env)).any (·.1) = false := by exact plain_ok rfl) : ED X Γ (.Call (.Name "min" p) [a, b] [] pos) (.int (if j < i then j else i)) :=
  ed_callB (call_min2 hc) hg hm (by decide +kernel) (ea_cons ha (ea_cons hb ea_nil he2) he) (fun vs G H ex i Q q => by
    cases i with
    | cons i1 i2 =>
      cases i2 with
      | cons i2 i3 =>
        cases i1
        cases i2
        cases i3
        exact ⟨_, _, rfl, q _ G H (.refl ex) (.int _)⟩) (by decide) (by decide) he hpl
theorem ed_all {bs : List Bool} (hc : X.calm = true) (hg : Gl X "all") (hm : X.mg "all" = none) (ha : EL X Γ a (bs.map D.bl)) (he : starEach [a] X.env = (false, eval a X.env) :: starEach [] X.env := by exact starEach_ns rfl) (hpl : (backTo pos (starEach [] X.env)).any (·.1) = false := by exact plain_ok rfl) : ED X Γ (.Call (.Name "all" p) [a] [] pos) (.bl (bs.all id)) :=
  ed_of (pe_callB (cr_all hc) hg hm (by decide +kernel) (pa_cons pe_w pa_nil he) (by decide) (by decide) he hpl) fun F σ G H s Q q => ha F σ G H s _ fun p vs G1 H1 g1 h1 i1 => by
    have e := i1.bls
    subst e
    exact ⟨p, bs, rfl, .inl (.inl h1), q _ G1 H1 g1 (.bl _)⟩
/-- isinstance(x, T), T a built-in type -/
def tyD : D → Option String
  | .non => some "NoneType" | .bl _ => some "bool" | .int _ => some "int" | .str _ => some "str" | .lst _ => some "list" | .tup _ => some "tuple" | .dct _ => some "dict" | _ => none
theorem tyx {K : PySem.W.Frag} {G H : Hp} (ex : Ex G H) {v : V} {d : D} {t : String} (h : Is K G v d) (e : tyD d = some t) : TyX K H v (.type t) := by
  cases h with
  | non => cases e; exact .base .non
  | bl b => cases e; exact .base (.bl b)
  | int b => cases e; exact .base (.int b)
  | str b => cases e; exact .base (.str _)
  | ty b => cases e
  | lst h1 h2 => cases e; exact .base (.lst (ex _ _ h1))
  | tup h1 h2 =>
    cases e
    rcases Evl.ex_t ex h1 with (h1 | ⟨o, h1⟩) | ⟨o, its, n, h1, hc, _⟩
    · exact .base (.tup h1)
    · exact .fTuple h1
    · exact .kTuple h1 hc
  | dct h1 h2 => cases e; exact .base (.dK (ex _ _ h1))
  | ins h0 h1 h2 => cases e
  | scr h1 => cases e
theorem ed_isi {t n : String} {r : Bool} (hg : Gl X "isinstance") (hm : X.mg "isinstance" = none) (ha : ED X Γ a x) (hb : ED X Γ b (.ty n)) (ht : tyD x = some t) (hk : kitB t n = some r) (he : starEach [a, b] X.env = (false, eval a X.env) :: starEach [b] X.env := by exact starEach_ns rfl) (he2 : starEach [b] X.env = (false, eval b X.env) :: starEach [] X.env := by exact starEach_ns rfl)
    (hpl : (backTo pos (starEach [b] X.env)).any (·.1) = false := by exact plain_ok rfl) : ED X Γ (.Call (.Name "isinstance" p) [a, b] [] pos) (.bl r) :=
  ed_callB call_isi hg hm (by decide +kernel) (ea_cons ha (ea_cons hb ea_nil he2) he) (fun vs G H ex i Q q => by
    cases i with
    | cons i1 i2 =>
      cases i2 with
      | cons i2 i3 =>
        cases i2
        cases i3
        exact ⟨_, _, _, _, r, rfl, .ty n, tyx ex i1 ht, kit_ty hk, q _ G H (.refl ex) (.bl r)⟩) (by decide) (by decide) he hpl
end

/-! ### methods of texts -/
section
variable {X : Cx} {Γ : List B} {pos apos : Pos} {a b : Expr} {ds : List D}
theorem ed_join {l : List Nat} {ls : List (List Nat)} (ha : ED X Γ a (.str l)) (hb : EL X Γ b (ls.map D.str)) (hz : (ls.map (·.length)).sum + ls.length * l.length ≤ LMax)
    (hbase : attributeBase a "join" X.env (eval a X.env) = eval a X.env := by exact ab_ns rfl) (hline : (apos.endLine == pos.line) = true := by rfl)
    (hfew : ((backTo pos (starEach (b :: []) X.env)).all (fun x => !x.1) && (backToKw pos (keywordEach [] X.env)).all (fun x => x.1.isSome) && decide ((b :: ([] : List Expr)).length + ([] : List Keyword).length + (if ([] : List Keyword).isEmpty then 0 else 1) < 30)) = true := by exact few_ok rfl)
    (hs : starEach (b :: []) X.env = (false, eval b X.env) :: starEach [] X.env := by exact starEach_ns rfl) (hplain : (backTo pos (starEach [] X.env)).any (·.1) = false := by exact plain_ok rfl) :
    ED X Γ (.Call (.Attribute a "join" apos) [b] [] pos) (.str (joinS l ls)) :=
  ed_of (pe_bm PySem.F.plainAttrs_str PySem.F.slot_str_join PySem.F.type_str_join mt_join pe_w (pa_cons pe_w pa_nil hs) hbase hfew hline hs hplain) fun F σ G H s Q q => ha F σ G H s _ fun v G1 H1 g1 i1 => by
    have a := i1.strOk
    cases i1
    refine ⟨rfl, hb F σ G1 H1 (s.grow g1) _ fun p vs G2 H2 g2 h2 i2 => ?_⟩
    have b := i2.strOk
    have e := i2.strs
    subst e
    refine ⟨_, p, ls.map S, rfl, rfl, .inl (.inl (.inl ?_)), ?_, ?_⟩
    · rw [h2, List.map_map]
      rfl
    · rw [List.map_map, List.length_map, S_len]
      have : (ls.map ((fun x : Str => x.length) ∘ S)) = ls.map (·.length) := List.map_congr_left fun x _ => S_len x
      rw [this]
      exact Nat.le_trans hz (by unfold LMax; decide)
    · exact q _ G2 H2 (g1.trans g2) (.str _ (strOk_join a b hz))
theorem eo_split {l : List Nat} {c : Nat} (ha : ED X Γ a (.str l)) (hb : ED X Γ b (.str [c])) (hc : c < 256)
    (hbase : attributeBase a "split" X.env (eval a X.env) = eval a X.env := by exact ab_ns rfl) (hline : (apos.endLine == pos.line) = true := by rfl)
    (hfew : ((backTo pos (starEach (b :: []) X.env)).all (fun x => !x.1) && (backToKw pos (keywordEach [] X.env)).all (fun x => x.1.isSome) && decide ((b :: ([] : List Expr)).length + ([] : List Keyword).length + (if ([] : List Keyword).isEmpty then 0 else 1) < 30)) = true := by exact few_ok rfl)
    (hs : starEach (b :: []) X.env = (false, eval b X.env) :: starEach [] X.env := by exact starEach_ns rfl) (hplain : (backTo pos (starEach [] X.env)).any (·.1) = false := by exact plain_ok rfl) :
    EO X Γ (.Call (.Attribute a "split" apos) [b] [] pos) (.lst ((splitS l [c]).map D.str)) :=
  eo_of (pe_bm PySem.F.plainAttrs_str PySem.F.slot_str_split PySem.F.type_str_split mt_split pe_w (pa_cons pe_w pa_nil hs) hbase hfew hline hs hplain) fun F σ G H s Q q => ha F σ G H s _ fun v G1 H1 g1 i1 => by
    have a := i1.strOk
    cases i1
    refine ⟨rfl, hb F σ G1 H1 (s.grow g1) _ fun w G2 H2 g2 i2 => ?_⟩
    cases i2
    refine ⟨_, _, rfl, rfl, rfl, by rw [S_len]; exact a.line, fun r hr => ?_⟩
    · refine q r _ G2 _ ((g1.trans g2).trans (Grow.lay g2.s hr)) upd_same (Evl.fresh_back g2.s hr) (Evl.fresh_back (g1.trans g2).h hr) ?_
      have e : (Txt.split (S l) (S [c])).map V.str = (splitS l [c]).map (fun l => V.str (S l)) := by
        unfold splitS
        rw [List.map_map]
        exact List.map_congr_left fun x _ => by simp [S]
      show IsAll _ _ ((Txt.split (S l) (S [c])).map V.str) _
      rw [e]
      exact IsAll.ofStrs _ (a.split hc)
end
end Sd

namespace Sd
open PySem PySem.Spec PyProof.Rows L2

/-! ### what is walked -/
def ItD (K : PySem.W.Frag) (Γ : List B) (wi : TI) (xs : List D) : Prop := ∀ F σ G H, Stt K F Γ σ G H → ∀ R : It → Hp → Prop,
  (∀ (J : It) (Gd : Hp → Prop) (Y : Nat → Hp → V → Hp → Prop) G' H', Grow G H G' H' → Walk J xs.length Gd Y → (∀ G2 H2, Ex G' G2 → Ex G2 H2 → Gd H2) →
    (∀ i G2 H2 v H3, Ex G' G2 → Ex G2 H2 → Y i H2 v H3 → ∃ G3 x, xs[i]? = some x ∧ Grow G2 H2 G3 H3 ∧ Is K G3 v x) → R J H') → wi σ H R
def IT (X : Cx) (Γ : List B) (tg iter : Expr) (xs : List D) : Prop := ∃ wi, PI X tg iter wi ∧ ItD X.K Γ wi xs
section
variable {X : Cx} {Γ : List B} {tg a b : Expr} {pos p : Pos} {ds ds' : List D}
theorem it_list (h : EL X Γ a ds) (hf : ∀ F σ G H, Stt X.K F Γ σ G H → ∀ Q : VK, (∀ p vs G' H', Grow G H G' H' → G' p = some (.lst vs) → IsAll X.K G' vs ds → Q (.ref p) H') → wE X a σ H Q) : IT X Γ tg a ds :=
  ⟨_, pi_list pe_w, fun F σ G H s R q => hf F σ G H s _ fun p vs G1 H1 g1 h1 i1 => by
    have hl := i1.len
    refine ⟨p, rfl, ⟨vs, .inl (.inl (g1.s _ _ h1))⟩, q _ _ _ G1 H1 g1 (hl ▸ walk_list (K := X.K) (a := p) (xs := vs)) (fun G2 H2 e1 e2 => .inl (.inl (e2 _ _ (e1 _ _ h1)))) fun i G2 H2 v H3 e1 e2 y => ?_⟩
    obtain ⟨rfl, hv⟩ := y
    obtain ⟨d, h2, h3⟩ := i1.getV hv
    exact ⟨G2, d, h2, .refl e2, h3.up e1⟩⟩
theorem it_lst (h : ED X Γ a (.lst ds)) : IT X Γ tg a ds := it_list h.el fun F σ G H s Q q => h F σ G H s _ fun v G1 H1 g1 i1 => by
  cases i1 with
  | lst h1 h2 => exact q _ _ _ _ g1 h1 h2
theorem it_tup (h : ED X Γ a (.tup ds)) : IT X Γ tg a ds :=
  ⟨_, pi_tup pe_w, fun F σ G H s R q => h F σ G H s _ fun v G1 H1 g1 i1 => by
    cases i1 with
    | @tup p vs _ h1 i1 =>
      have hl := i1.len
      refine ⟨p, rfl, ⟨vs, Evl.ex_t g1.s h1⟩, q _ _ _ G1 H1 g1 (hl ▸ walk_tup (K := X.K) (a := p) (xs := vs)) (fun G2 H2 e1 e2 => Evl.ex_t (e1.trans e2) h1) fun i G2 H2 v H3 e1 e2 y => ?_⟩
      obtain ⟨rfl, hv⟩ := y
      obtain ⟨d, h2, h3⟩ := i1.getV hv
      exact ⟨G2, d, h2, .refl e2, h3.up e1⟩⟩
theorem it_str {l : List Nat} (h : ED X Γ a (.str l)) : IT X Γ tg a (l.map fun c => D.str [c]) :=
  ⟨_, pi_str pe_w, fun F σ G H s R q => h F σ G H s _ fun v G1 H1 g1 i1 => by
    have ok := i1.strOk
    cases i1
    have hl : (S l).cps.size = (l.map fun c => D.str [c]).length := by simp [S]
    refine ⟨S l, rfl, q _ _ _ G1 H1 g1 (hl ▸ walk_str (z := S l)) (fun _ _ _ _ => trivial) fun i G2 H2 v H3 e1 e2 y => ?_⟩
    obtain ⟨rfl, c, hc, rfl⟩ := y
    have hc' : l[i]? = some c := by simpa [S] using hc
    refine ⟨G2, .str [c], ?_, .refl e2, .str [c] (ok.one (List.mem_of_getElem? hc'))⟩
    rw [List.getElem?_map, hc']
    rfl⟩
def rints (lo : Int) (n : Nat) : List Int := (List.range n).map fun (i : Nat) => lo + (i : Int)
theorem rints_get {lo : Int} {n i : Nat} (h : i < n) : (rints lo n)[i]? = some (lo + (i : Int)) := by
  unfold rints
  rw [List.getElem?_map, List.getElem?_range h]
  rfl
theorem rints_len (lo : Int) (n : Nat) : (rints lo n).length = n := by
  unfold rints
  rw [List.length_map, List.length_range]
theorem rints_mem {lo x : Int} {n : Nat} (h : x ∈ rints lo n) : lo ≤ x ∧ x < lo + n := by
  unfold rints at h
  obtain ⟨i, hi, rfl⟩ := List.mem_map.mp h
  have := List.mem_range.mp hi
  omega
theorem walk_ints {J : It} {lo : Int} {n : Nat} (w : Walk J n (fun _ => True) (YFn fun i => .int (lo + i))) : Walk J ((rints lo n).map D.int).length (fun _ => True) (fun i H v H' => H' = H ∧ i < n ∧ v = .int (lo + i)) := by
  have hl : ((rints lo n).map D.int).length = n := by rw [List.length_map, rints_len]
  rw [hl]
  exact w.mono (fun _ h => h) fun i H x H' hi _ y => ⟨y.1, hi, y.2⟩
theorem it_rng {wi : TI} {lo : Int} {n : Nat} {J : It} (w : Walk J n (fun _ => True) (YFn fun i => .int (lo + i))) {K : PySem.W.Frag} {F : Hp} {σ : L2.St} {G H G1 H1 : Hp} (s : Stt K F Γ σ G H) (g : Grow G H G1 H1) {R : It → Hp → Prop}
    (q : ∀ (J : It) (Gd : Hp → Prop) (Y : Nat → Hp → V → Hp → Prop) G' H', Grow G H G' H' → Walk J ((rints lo n).map D.int).length Gd Y → (∀ G2 H2, Ex G' G2 → Ex G2 H2 → Gd H2) →
      (∀ i G2 H2 v H3, Ex G' G2 → Ex G2 H2 → Y i H2 v H3 → ∃ G3 x, ((rints lo n).map D.int)[i]? = some x ∧ Grow G2 H2 G3 H3 ∧ Is K G3 v x) → R J H') : R J H1 :=
  q J _ _ G1 H1 g (walk_ints w) (fun _ _ _ _ => trivial) fun i G2 H2 v H3 e1 e2 y => by
    obtain ⟨rfl, hi, rfl⟩ := y
    exact ⟨G2, .int (lo + i), by rw [List.getElem?_map, rints_get hi]; rfl, .refl e2, .int _⟩
theorem it_range1 {n : Int} (hg : Gl X "range") (hm : X.mg "range" = none) (ha : ED X Γ a (.int n)) (hb : -(2 ^ 62) ≤ n ∧ n < 2 ^ 62) (hs : starEach [a] X.env = [(false, eval a X.env)] := by exact starEach_ns rfl) : IT X Γ tg (.Call (.Name "range" p) [a] [] pos) ((rints 0 n.toNat).map D.int) :=
  ⟨_, pi_range1 hg hm pa_w hs, fun F σ G H s R q => (ea_cons ha ea_nil hs) F σ G H s _ fun vs G1 H1 g1 i1 => by
    cases i1 with
    | cons i1 i2 =>
      cases i1
      cases i2
      exact ⟨n, rfl, hb.1, hb.2, it_rng (wi := iRng1 tNil) walk_range s g1 q⟩⟩
theorem it_range2 {m n : Int} (hg : Gl X "range") (hm : X.mg "range" = none) (ha : ED X Γ a (.int m)) (hb : ED X Γ b (.int n)) (h1 : -(2 ^ 62) ≤ m ∧ m < 2 ^ 62) (h2 : -(2 ^ 62) ≤ n ∧ n < 2 ^ 62) (hs : starEach [a, b] X.env = [(false, eval a X.env), (false, eval b X.env)] := by exact starEach_ns2 rfl) (hs2 : starEach [b] X.env = [(false, eval b X.env)] := by exact starEach_ns rfl) :
    IT X Γ tg (.Call (.Name "range" p) [a, b] [] pos) ((rints m (n - m).toNat).map D.int) :=
  ⟨_, pi_range2 hg hm pa_w hs hs2, fun F σ G H s R q => (ea_cons ha (ea_cons hb ea_nil hs2) (by rw [hs, hs2])) F σ G H s _ fun vs G1 H1 g1 i1 => by
    cases i1 with
    | cons i1 i2 =>
      cases i2 with
      | cons i2 i3 =>
        cases i1
        cases i2
        cases i3
        exact ⟨m, n, rfl, ⟨h1.1, h1.2, h2.1, h2.2⟩, it_rng (wi := iRng1 tNil) walk_range s g1 q⟩⟩
/-- a new pair at each turn -/
theorem pair_new {K : PySem.W.Frag} {G2 H2 : Hp} {T : Addr} {x y : V} {d e : D} (hT : H2 T = none) (ex : Ex G2 H2) (h1 : Is K G2 x d) (h2 : Is K G2 y e) : Is K (upd G2 T (.tup [x, y])) (.ref T) (.tup [d, e]) :=
  .tup (.inl (.inl upd_same)) (IsAll.up (.cons h1 (.cons h2 .nil)) (Evl.Ex.new (Evl.fresh_back ex hT)))
theorem it_zip {elts : List Expr} {kk : Nat} {tpos : Pos} (hg : Gl X "zip") (hm : X.mg "zip" = none) (ha : ED X Γ a (.lst ds)) (hb : ED X Γ b (.lst ds')) (hs : starEach [a, b] X.env = (false, eval a X.env) :: starEach [b] X.env := by exact starEach_ns rfl) (hs2 : starEach [b] X.env = (false, eval b X.env) :: starEach [] X.env := by exact starEach_ns rfl) (hpl : (backTo pos (starEach [b] X.env)).any (·.1) = false := by exact plain_ok rfl) :
    IT X Γ (.Tuple elts kk tpos) (.Call (.Name "zip" p) [a, b] [] pos) ((ds.zip ds').map fun z => .tup [z.1, z.2]) :=
  ⟨_, pi_zip hg hm pa_w hs hpl, fun F σ G H s R q => (ea_cons ha (ea_cons hb ea_nil hs2) hs) F σ G H s _ fun vs G1 H1 g1 i1 => by
    cases i1 with
    | cons i1 i2 =>
      cases i2 with
      | cons i2 i3 =>
        cases i3
        cases i1 with
        | @lst pa va _ ha1 ha2 =>
          cases i2 with
          | @lst pb vb _ hb1 hb2 =>
            have hl : min va.length vb.length = ((ds.zip ds').map fun z => D.tup [z.1, z.2]).length := by rw [List.length_map, List.length_zip, ha2.len, hb2.len]
            refine ⟨pa, pb, va, vb, rfl, .inl (.inl (g1.s _ _ ha1)), .inl (.inl (g1.s _ _ hb1)), q _ _ _ G1 H1 g1 (hl ▸ walk_zip (K := X.K) (a := pa) (b := pb) (xs := va) (ys := vb) rfl) (fun G2 H2 e1 e2 => ⟨.inl (.inl (e2 _ _ (e1 _ _ ha1))), .inl (.inl (e2 _ _ (e1 _ _ hb1)))⟩) fun i G2 H2 v H3 e1 e2 y => ?_⟩
            obtain ⟨T, x, y, rfl, hT, rfl, hx, hy⟩ := y
            obtain ⟨d, k1, k2⟩ := ha2.getV hx
            obtain ⟨e, k3, k4⟩ := hb2.getV hy
            refine ⟨_, .tup [d, e], ?_, Grow.new e2 hT, pair_new hT e2 (k2.up e1) (k4.up e1)⟩
            rw [List.getElem?_map, (List.getElem?_zip_eq_some (z := (d, e))).mpr ⟨k1, k3⟩]
            rfl⟩
theorem it_enum {elts : List Expr} {kk : Nat} {tpos : Pos} (hg : Gl X "enumerate") (hm : X.mg "enumerate" = none) (ha : ED X Γ a (.lst ds)) (hs : starEach [a] X.env = [(false, eval a X.env)] := by exact starEach_ns rfl) :
    IT X Γ (.Tuple elts kk tpos) (.Call (.Name "enumerate" p) [a] [] pos) ((ds.zipIdx).map fun z => .tup [.int (z.2 : Int), z.1]) :=
  ⟨_, pi_enum hg hm pa_w hs, fun F σ G H s R q => (ea_cons ha ea_nil hs) F σ G H s _ fun vs G1 H1 g1 i1 => by
    cases i1 with
    | cons i1 i2 =>
      cases i2
      cases i1 with
      | @lst pa va _ ha1 ha2 =>
        have hl : va.length = ((ds.zipIdx).map fun z => D.tup [.int (z.2 : Int), z.1]).length := by rw [List.length_map, List.length_zipIdx, ha2.len]
        refine ⟨pa, va, rfl, .inl (.inl (g1.s _ _ ha1)), q _ _ _ G1 H1 g1 (hl ▸ walk_enum (K := X.K) (a := pa) (xs := va)) (fun G2 H2 e1 e2 => .inl (.inl (e2 _ _ (e1 _ _ ha1)))) fun i G2 H2 v H3 e1 e2 y => ?_⟩
        obtain ⟨T, x, y, rfl, hT, rfl, hx, hy⟩ := y
        cases hx
        obtain ⟨d, k1, k2⟩ := ha2.getV hy
        refine ⟨_, .tup [.int (i : Nat), d], ?_, Grow.new e2 hT, pair_new hT e2 (.int _) (k2.up e1)⟩
        rw [List.getElem?_map, List.getElem?_zipIdx, k1]
        simp⟩
end

/-! ### targets -/
def setMany (σ : L2.St) : List Nat → List V → L2.St
  | j :: js, w :: ws => setMany (σ.set j (some w)) js ws
  | _, _ => σ
def TgD (K : PySem.W.Frag) (g : TG) (js : List Nat) (Γ : List B) (x : D) (Γ' : List B) : Prop := ∀ F σ G H v, Stt K F Γ σ G H → Is K G v x → ∀ Q : L2.St → Hp → Prop, (∀ ws, Stt K F Γ' (setMany σ js ws) G H → Q (setMany σ js ws) H) → g v σ H Q
def TgsD (K : PySem.W.Frag) (g : TGs) (js : List Nat) (Γ : List B) (xs : List D) (Γ' : List B) : Prop := ∀ F σ G H vs, Stt K F Γ σ G H → IsAll K G vs xs → ∀ Q : L2.St → Hp → Prop, (∀ ws, Stt K F Γ' (setMany σ js ws) G H → Q (setMany σ js ws) H) → g vs σ H Q
section
variable {K : PySem.W.Frag} {Γ Γ' : List B} {x : D} {xs : List D} {js : List Nat}
theorem tg_name (j : Nat) : TgD K (gName j) [j] Γ x (Γ.set j (.d x)) := fun F σ G H v s i Q q => q [v] (s.set j i)
theorem tgs_nil : TgsD K gNil [] Γ [] Γ := fun F σ G H vs s i Q q => by
  cases i
  exact ⟨rfl, q [] s⟩
theorem tgs_cons {u : TGs} (j : Nat) (h : TgsD K u js (Γ.set j (.d x)) xs Γ') : TgsD K (gCons (gName j) u) (j :: js) Γ (x :: xs) Γ' := fun F σ G H vs s i Q q => by
  cases i with
  | @cons v vs _ _ i1 i2 => exact ⟨v, vs, rfl, h F _ G H vs (s.set j i1) i2 _ fun ws s' => q (v :: ws) s'⟩
theorem tg_tup {n : Nat} {u : TGs} (h : TgsD K u js Γ xs Γ') (hl : xs.length = n) : TgD K (gTup K n u) js Γ (.tup xs) Γ' := fun F σ G H v s i Q q => by
  cases i with
  | tup h1 h2 => exact ⟨_, _, rfl, Evl.ex_t s.sub h1, by rw [h2.len]; exact hl, h F σ G H _ s h2 Q q⟩
end

/-! ### comprehensions -/
def wipeB (Γ : List B) : List Nat → List B
  | [] => Γ
  | v :: vs => (wipeB Γ vs).set v .un
theorem Stt.wipe {K : PySem.W.Frag} {F : Hp} {Γ : List B} {σ : L2.St} {G H : Hp} (s : Stt K F Γ σ G H) : ∀ vs : List Nat, Stt K F (wipeB Γ vs) (L2.wipe σ vs) G H
  | [] => s
  | v :: vs => (s.wipe vs).unset v none
theorem wipe_get (σ : L2.St) (i : Nat) : ∀ vs : List Nat, (L2.wipe σ vs)[i]? = if i ∈ vs then (if i < σ.length then some none else none) else σ[i]?
  | [] => by simp [L2.wipe]
  | v :: vs => by
    unfold L2.wipe
    by_cases h : v = i
    · subst h
      simp only [List.mem_cons, true_or, if_true]
      by_cases hl : v < σ.length
      · rw [List.getElem?_set_self (by rw [wipe_length]; exact hl), if_pos hl]
      · rw [List.getElem?_eq_none (by rw [List.length_set, wipe_length]; omega), if_neg hl]
    · rw [List.getElem?_set_ne h, wipe_get σ i vs]
      simp only [List.mem_cons, Ne.symm h, false_or]
theorem wipe_set {σ : L2.St} {j : Nat} {y : Option V} {vs : List Nat} (h : j ∈ vs) : L2.wipe (σ.set j y) vs = L2.wipe σ vs := by
  apply List.ext_getElem?
  intro i
  rw [wipe_get, wipe_get, List.length_set]
  by_cases hi : i ∈ vs
  · rw [if_pos hi, if_pos hi]
  · rw [if_neg hi, if_neg hi, List.getElem?_set_ne (by rintro rfl; exact hi h)]
theorem wipe_wipe {σ : L2.St} {vs : List Nat} : L2.wipe (L2.wipe σ vs) vs = L2.wipe σ vs := by
  apply List.ext_getElem?
  intro i
  rw [wipe_get, wipe_length]
  by_cases hi : i ∈ vs
  · rw [if_pos hi, wipe_get, if_pos hi]
  · rw [if_neg hi]
theorem wipe_many {vs : List Nat} : ∀ {js : List Nat} {ws : List V} {σ : L2.St}, (∀ j ∈ js, j ∈ vs) → L2.wipe (setMany σ js ws) vs = L2.wipe σ vs
  | [], _, _, _ => by simp [setMany]
  | _ :: _, [], _, _ => by simp [setMany]
  | j :: js, w :: ws, σ, h => by
    unfold setMany
    rw [wipe_many (fun i hi => h i (List.mem_cons_of_mem _ hi)), wipe_set (h j List.mem_cons_self)]

abbrev blkX (X : Cx) (scope : Scope) (s : Shared) (H : Hp) (C : Addr) (cl : List (Str × Addr)) (fp : List Addr) : Cx := X.blk s H scope (compEnvC scope cl C X.env) fp
/-- the clause's tests -/
def ETs (X : Cx) (scope : Scope) (Γ : List B) (ifs : List Expr) (k : Bool) : Prop := match ifs with
  | [] => k = true
  | [c] => ∀ s H C cl fp, ET (blkX X scope s H C cl fp) Γ c k
  | _ => False
/-- a comprehension that comes to a list -/
def LcOk (X : Cx) (Γ : List B) (elt tg iter : Expr) (ifs : List Expr) (scope : Scope) (own : List (Str × Nat)) (o : OO) : Prop :=
  ∃ (wi : TI) (g : TG) (tt : TT) (te : TE), PI X tg iter wi ∧ BlkOk X.N X.env.scope scope own ∧ (∀ s H C cl fp, PG (blkX X scope s H C cl fp) tg g) ∧ (∀ s H C cl fp, PTs (blkX X scope s H C cl fp) ifs tt) ∧ (∀ s H C cl fp, PE (blkX X scope s H C cl fp) elt te) ∧
    EvO X.K Γ (tLc wi g tt te (own.map (·.2))) o
theorem lc_ok {X : Cx} {Γ : List B} {elt tg iter : Expr} {ifs : List Expr} {scope : Scope} {own : List (Str × Nat)} {g : TG} {js : List Nat} {Yt τ : Type} {encY : Yt → D} {enc : τ → D} (ys : List Yt) (p : Yt → Bool) (f : Yt → τ)
    (hi : IT X Γ tg iter (ys.map encY)) (ok : BlkOk X.N X.env.scope scope own) (hg : ∀ s H C cl fp, PG (blkX X scope s H C cl fp) tg g) (hj : ∀ j ∈ js, j ∈ own.map (·.2)) (hz : ys.length < sizeLine) (Γe : Yt → List B)
    (htg : ∀ y, y ∈ ys → TgD X.K g js (wipeB Γ (own.map (·.2))) (encY y) (Γe y)) (ht : ∀ y, y ∈ ys → ETs X scope (Γe y) ifs (p y)) (he : ∀ y, y ∈ ys → p y = true → ∀ s H C cl fp, ED (blkX X scope s H C cl fp) (Γe y) elt (enc (f y)))
    (hifs : ifs.length ≤ 1 := by decide) : LcOk X Γ elt tg iter ifs scope own (.lst (((ys.filter p).map f).map enc)) := by
  obtain ⟨wi, hi1, hi2⟩ := hi
  -- the tests
  obtain ⟨tt, ht1, ht2⟩ : ∃ tt : TT, (∀ s H C cl fp, PTs (blkX X scope s H C cl fp) ifs tt) ∧ ∀ y, y ∈ ys → EvT X.K (Γe y) tt (p y) := by
    match ifs, hifs, ht with
    | [], _, ht => exact ⟨tYes, fun s H C cl fp => pts_nil, fun y hy F σ G H st Q q => by
        have e : p y = true := ht y hy
        rw [e] at q
        exact q G H (.refl st.sub)⟩
    | [c], _, ht => exact ⟨fun σ H Q => ∀ s H' C cl fp, WT (blkX X scope s H' C cl fp) c σ H Q, fun s H C cl fp => pts_one ⟨fun pins sh σ H1 Q I h => (h s H C cl fp).run pins sh I⟩, fun y hy F σ G H st Q q s H' C cl fp => (show ET (blkX X scope s H' C cl fp) (Γe y) c (p y) from (show ∀ s H C cl fp, ET (blkX X scope s H C cl fp) (Γe y) c (p y) from ht y hy) s H' C cl fp) F σ G H st Q q⟩
  obtain ⟨te, he1, he2⟩ : ∃ te : TE, (∀ s H C cl fp, PE (blkX X scope s H C cl fp) elt te) ∧ ∀ y, y ∈ ys → p y = true → EvD X.K (Γe y) te (enc (f y)) :=
    ⟨fun σ H Q => ∀ s H' C cl fp, WE (blkX X scope s H' C cl fp) elt σ H Q, fun s H C cl fp => ⟨fun pins sh σ H1 Q I h => (h s H C cl fp).run pins sh I⟩, fun y hy hp F σ G H st Q q s H' C cl fp => he y hy hp s H' C cl fp F σ G H st Q q⟩
  refine ⟨wi, g, tt, te, hi1, ok, hg, ht1, he1, ?_⟩
  intro F σ G H st Q q
  refine hi2 F σ G H st _ fun J Gd Y G1 H1 g1 W hGd hY Dl hD => ?_
  -- the word: behind i turns the list at Dl holds what the first i items gave
  have hlen : (ys.map encY).length = ys.length := List.length_map _
  rw [hlen] at W
  refine lc_it (g := g) (tt := tt) (te := te) (vs := own.map (·.2)) (σ := σ) (H1 := H1) (D := Dl) (Qd := fun H => Q (.ref Dl) H) W (fun i H' => ∃ G' vs, Grow G1 H1 G' H' ∧ G' Dl = none ∧ H' Dl = some (.lst vs) ∧ IsAll X.K G' vs ((((ys.take i).filter p).map f).map enc)) ?_ (fun i H' _ ⟨G', _, gr, _⟩ => hGd G' H' gr.g gr.s) ?_ ?_
  · exact ⟨G1, [], Grow.lay g1.s hD, Evl.fresh_back g1.s hD, upd_same, .nil⟩
  · rintro i x H2 H3 hi ⟨G2, vs, gr, nD, hDl, iv⟩ hy
    obtain ⟨G3, xd, hx, gr3, ix⟩ := hY i G2 H2 x H3 gr.g gr.s hy
    rw [List.getElem?_map] at hx
    cases hyi : ys[i]? with
    | none =>
      rw [hyi] at hx
      cases hx
    | some y =>
      rw [hyi] at hx
      cases hx
      have hmem : y ∈ ys := List.mem_of_getElem? hyi
      have htake : ys.take (i + 1) = ys.take i ++ [y] := by
        rw [List.take_succ, hyi]
        rfl
      have st3 : Stt X.K F Γ σ G3 H3 := st.grow ((g1.trans gr).trans gr3)
      have hlt : vs.length < sizeLine := by
        rw [iv.len, List.length_map, List.length_map]
        have h1 := List.length_filter_le p (ys.take i)
        have h2 := List.length_take_le i ys
        omega
      refine htg y hmem F _ G3 H3 x (st3.wipe _) ix _ fun ws st4 => ⟨?_, ?_⟩
      · rw [wipe_many hj, wipe_wipe]
      · refine ht2 y hmem F _ G3 H3 st4 _ fun G4 H4 gr4 => ?_
        have grw : Grow G1 H1 G4 H4 := (gr.trans gr3).trans gr4
        have nD4 : G4 Dl = none := gr4.f Dl _ (gr3.h _ _ hDl) (gr3.f Dl _ hDl nD)
        have hD4 : H4 Dl = some (.lst vs) := gr4.h _ _ (gr3.h _ _ hDl)
        have iv4 := iv.up (gr3.g.trans gr4.g)
        cases hp : p y with
        | false =>
          show ∃ G' vs, _
          refine ⟨G4, vs, grw, nD4, hD4, ?_⟩
          rw [htake, List.filter_append]
          simp only [List.filter_cons, hp, List.filter_nil, List.append_nil, Bool.false_eq_true, if_false]
          exact iv4
        | true =>
          refine he2 y hmem hp F _ G4 H4 (st4.grow gr4) _ fun u G5 H5 gr5 i5 => ?_
          have hD5 : H5 Dl = some (.lst vs) := gr5.h _ _ hD4
          have nD5 : G5 Dl = none := gr5.f Dl _ hD4 nD4
          refine ⟨vs, hD5, hlt, G5, vs ++ [u], ⟨grw.g.trans gr5.g, fun b o e => ?_, fun b o e => ?_, fun b o e n => gr5.f b o (grw.h b o e) (grw.f b o e n)⟩, nD5, upd_same, ?_⟩
          · rw [upd_ne (ne_of_none e hD)]
            exact gr5.h b o (grw.h b o e)
          · rw [upd_ne (ne_of_none e nD5)]
            exact gr5.s b o e
          · rw [htake, List.filter_append]
            simp only [List.filter_cons, hp, List.filter_nil, if_true, List.map_append, List.map_cons, List.map_nil]
            exact (iv4.up gr5.g).app (.cons i5 .nil)
  · rintro H' ⟨G', vs, gr, nD, hDl, iv⟩
    rw [List.take_length] at iv
    exact q Dl _ G' H' (g1.trans gr) hDl nD (Evl.fresh_back g1.h hD) iv
theorem eo_lc {X : Cx} {Γ : List B} {elt tg iter : Expr} {ifs : List Expr} {scope : Scope} {own : List (Str × Nat)} {pos : Pos} {o : OO} (hc : X.calm = true) (hN : X.N.Nodup) (h : LcOk X Γ elt tg iter ifs scope own o) (hs : ∀ x, foldedSetIterable iter X.env x = pure x := by exact fs_ns rfl) :
    EO X Γ (.ListComp elt [⟨tg, iter, ifs, 0⟩] scope pos) o := by
  obtain ⟨wi, g, tt, te, h1, h2, h3, h4, h5, h6⟩ := h
  exact eo_of (pe_lc hc hN h1 h2 h3 h4 h5 hs) h6
theorem filter_tt {α : Type} (xs : List α) : xs.filter (fun _ => true) = xs := List.filter_eq_self.mpr fun _ _ => rfl
/-- .. without tests -/
theorem lc_ok0 {X : Cx} {Γ : List B} {elt tg iter : Expr} {scope : Scope} {own : List (Str × Nat)} {g : TG} {js : List Nat} {Yt τ : Type} {encY : Yt → D} {enc : τ → D} (ys : List Yt) (f : Yt → τ)
    (hi : IT X Γ tg iter (ys.map encY)) (ok : BlkOk X.N X.env.scope scope own) (hg : ∀ s H C cl fp, PG (blkX X scope s H C cl fp) tg g) (hj : ∀ j ∈ js, j ∈ own.map (·.2)) (hz : ys.length < sizeLine) (Γe : Yt → List B)
    (htg : ∀ y, y ∈ ys → TgD X.K g js (wipeB Γ (own.map (·.2))) (encY y) (Γe y)) (he : ∀ y, y ∈ ys → ∀ s H C cl fp, ED (blkX X scope s H C cl fp) (Γe y) elt (enc (f y))) : LcOk X Γ elt tg iter [] scope own (.lst ((ys.map f).map enc)) := by
  have h := lc_ok (ifs := []) (encY := encY) (enc := enc) ys (fun _ => true) f hi ok hg hj hz Γe htg (fun _ _ => rfl) (fun y hy _ => he y hy) (by decide)
  rw [filter_tt] at h
  exact h
end Sd

namespace Sd
open PySem PySem.Spec PyProof.Rows L2

/-! ### how blocks end -/
structure Exn where
  cls : Str
  fs : List (Str × D)
inductive Res where
  | v (x : D) | o (o : OO) | x (e : Exn) | stk
inductive Ctl (S T : Type) where
  | go (s : S) | brk (b : T) | ret (r : Res)
def bnd {α β : Type} (x : α) (f : α → β) : β := f x
theorem bnd_eq {α β : Type} (x : α) (f : α → β) : bnd x f = f x := rfl
def Ctl.bind {S S' T : Type} (c : Ctl S T) (f : S → Ctl S' T) : Ctl S' T := match c with
  | .go s => f s
  | .brk b => .brk b
  | .ret r => .ret r
def Ctl.up {S T : Type} (c : Ctl Empty T) : Ctl S T := match c with
  | .go s => nomatch s
  | .brk b => .brk b
  | .ret r => .ret r
theorem Ctl.bind_go {S S' T : Type} (s : S) (f : S → Ctl S' T) : (Ctl.go (T := T) s).bind f = f s := rfl
theorem Ctl.bind_brk {S S' T : Type} (b : T) (f : S → Ctl S' T) : (Ctl.brk (S := S) b).bind f = .brk b := rfl
theorem Ctl.bind_ret {S S' T : Type} (r : Res) (f : S → Ctl S' T) : (Ctl.ret (S := S) (T := T) r).bind f = .ret r := rfl
theorem Ctl.up_ret {S T : Type} (r : Res) : (Ctl.ret (T := T) r).up = (Ctl.ret r : Ctl S T) := rfl
theorem Ctl.up_brk {S T : Type} (b : T) : (Ctl.brk b).up = (Ctl.brk b : Ctl S T) := rfl
/-- a for loop: S what goes on from turn to turn -/
def loop {S Y T : Type} (step : S → Y → Ctl S S) : S → List Y → Ctl S T
  | s, [] => .go s
  | s, y :: ys => match step s y with
    | .go s' => loop step s' ys
    | .brk s' => .go s'
    | .ret r => .ret r
def bndX {α S T : Type} (r : Except Exn α) (k : α → Ctl S T) : Ctl S T := match r with
  | .ok v => k v
  | .error e => .ret (.x e)

def ExIs (K : PySem.W.Frag) (G H : Hp) (e : Exn) (cls : Value) (d : Option Addr) : Prop := PySem.W.nsIn K mainGlobals e.cls = some (some cls) ∧ (e.fs ≠ [] → ∃ a vs, d = some a ∧ G a = some (.xd vs) ∧ IsFs K G vs e.fs) ∧ (e.fs = [] → d = none)
def PostR (K : PySem.W.Frag) (F G0 : Hp) (E : XK) (rt : VK) : Res → Prop
  | .v x => ∀ v G' H', Grow G0 F G' H' → Is K G' v x → rt v H'
  | .o o => ∀ p u G' H', Grow G0 F G' H' → H' p = some u → G' p = none → F p = none → OwnIs K G' o u → rt (.ref p) H'
  | .x e => ∀ cls d G' H', Grow G0 F G' H' → ExIs K G' H' e cls d → E cls d H'
  | .stk => False
def PostC {S T : Type} (K : PySem.W.Frag) (F G0 G : Hp) (E : XK) (D : Ends) (Γs : S → List B) (Γb : T → List B) : Ctl S T → Prop
  | .go s => ∀ σ' G' H', Ex G G' → Stt K F (Γs s) σ' G' H' → Grow G0 F G' H' → D.nx σ' H'
  | .brk b => ∀ σ' G' H', Ex G G' → Stt K F (Γb b) σ' G' H' → Grow G0 F G' H' → D.bk σ' H'
  | .ret r => PostR K F G0 E D.rt r
theorem PostC.up {S T : Type} {K : PySem.W.Frag} {F G0 G G1 : Hp} {E : XK} {D : Ends} {Γs : S → List B} {Γb : T → List B} {k : Ctl S T} (h : PostC K F G0 G E D Γs Γb k) (e : Ex G G1) : PostC K F G0 G1 E D Γs Γb k := by
  cases k with
  | go s => exact fun σ' G' H' e' => h σ' G' H' (e.trans e')
  | brk s => exact fun σ' G' H' e' => h σ' G' H' (e.trans e')
  | ret r => exact h
def BlkD {S T : Type} (K : PySem.W.Frag) (E : XK) (Γ : List B) (w : TS) (Γs : S → List B) (Γb : T → List B) (k : Ctl S T) : Prop :=
  ∀ F G0 σ G H (D : Ends), Stt K F Γ σ G H → Grow G0 F G H → PostC K F G0 G E D Γs Γb k → w D σ H
abbrev BK {S T : Type} (X : Cx) (E : XK) (Γ : List B) (sts : List Stmt) (Γs : S → List B) (Γb : T → List B) (k : Ctl S T) : Prop := BlkD X.K E Γ (wS X sts) Γs Γb k

/-- what a def's body may lean on -/
structure RoomB (k : Nat) (A : Around) : Prop where
  dp : A.depth + 3 * k + 5 < recursionLimit
  un : A.units + 16 * k + 200 < cLine
theorem RoomB.mono {j k : Nat} {A : Around} (r : RoomB k A) (h : j ≤ k) : RoomB j A := ⟨by have := r.dp; omega, by have := r.un; omega⟩
structure XOk (lv : Nat) (N : List Str) (sc : Scope) (X : Cx) : Prop where
  room : RoomB lv X.A
  fn : ∀ x, X.fn x = true
  hN : X.N = N
  hsc : X.env.scope = sc
  nd : X.N.Nodup
  kd : X.env.scope.kind = .function
  stk : X.stack = X.env :: X.outer
  frm : X.env.frame = some X.env.locals
/-- .. where no exception is handled -/
structure XCm (X : Cx) (E : XK) : Prop where
  calm : X.calm = true
  hd : X.A.handled = none
  pown : PassesOwn (model X.prog X.w) X.A X.env X.xe
  takes : Takes X (fun cls d _ H => E cls d H)
section
variable {lv : Nat} {N : List Str} {sc : Scope} {X : Cx} {E : XK}
theorem XCm.room (hM : XCm X E) (hX : XOk lv N sc X) {k : Nat} (h : k ≤ lv) : Room k X.A := ⟨hM.hd, (hX.room.mono h).dp, (hX.room.mono h).un⟩
theorem XOk.nm (h : XOk lv N sc X) {i : Nat} {x : Str} (e : N[i]? = some x) : X.N[i]? = some x := by rw [h.hN]; exact e
theorem XOk.lk (h : XOk lv N sc X) {x : Str} {k : NameKind} (e : sc.names.lookup x = some k) : X.env.scope.names.lookup x = some k := by rw [h.hsc]; exact e
theorem XOk.lc (h : XOk lv N sc X) {x : Str} (e : Loc sc x) : Loc X.env.scope x := by rw [h.hsc]; exact e
theorem XOk.vs (h : XOk lv N sc X) {x : Str} (e : Vis sc x) : Vis X.env.scope x := by rw [h.hsc]; exact e
theorem XOk.gl (h : XOk lv N sc X) {x : Str} (e : sc.names.lookup x = some .globalImplicit) : Gl X x := by
  show X.env.scope.names.lookup x = some .globalImplicit
  rw [h.hsc]
  exact e
end
theorem loc_l {sc : Scope} {x : Str} (h : sc.names.lookup x = some .local) : Loc sc x := .inl h
theorem loc_c {sc : Scope} {x : Str} (h : sc.names.lookup x = some .cell) : Loc sc x := .inr h
theorem vis_l {sc : Scope} {x : Str} (h : sc.names.lookup x = some .local) : Vis sc x := .inl h
theorem vis_c {sc : Scope} {x : Str} (h : sc.names.lookup x = some .cell) : Vis sc x := .inr (.inl h)
theorem vis_f {sc : Scope} {x : Str} (h : sc.names.lookup x = some .free) : Vis sc x := .inr (.inr h)

section
variable {X : Cx} {E : XK} {Γ : List B} {S T : Type} {Γs : S → List B} {Γb : T → List B} {st : Stmt} {rest : List Stmt} {pos : Pos}
theorem w_cons {t : TS} {D : Ends} {σ : L2.St} {H : Hp} (h : PS X st t) (k : t { D with nx := wS X rest D } σ H) : wS X (st :: rest) D σ H := ⟨fun pins s I => (pss_cons h pss_w).run pins s σ H D I k⟩
theorem w_nil {D : Ends} {σ : L2.St} {H : Hp} (k : D.nx σ H) : wS X [] D σ H := ⟨fun pins s I => (pss_nil (X := X)).run pins s σ H D I k⟩

/-! ### weaker slots -/
inductive Wk : List B → List B → Prop
  | nil : Wk [] []
  | keep {b : B} {Γ Γ' : List B} : Wk Γ Γ' → Wk (b :: Γ) (b :: Γ')
  | drop {b : B} {Γ Γ' : List B} : Wk Γ Γ' → Wk (b :: Γ) (.un :: Γ')
theorem Wk.refl : ∀ Γ : List B, Wk Γ Γ
  | [] => .nil
  | _ :: Γ => .keep (Wk.refl Γ)
theorem Wk.len {Γ Γ' : List B} (h : Wk Γ Γ') : Γ.length = Γ'.length := by
  induction h with
  | nil => rfl
  | keep _ ih => exact congrArg (· + 1) ih
  | drop _ ih => exact congrArg (· + 1) ih
theorem Wk.get {Γ Γ' : List B} (h : Wk Γ Γ') : ∀ {i : Nat} {b : B}, Γ'[i]? = some b → b ≠ .un → Γ[i]? = some b := by
  induction h with
  | nil => intro i b e _; exact e
  | keep _ ih =>
    intro i b e n
    cases i with
    | zero => exact e
    | succ i => exact ih (by simpa using e) n
  | drop _ ih =>
    intro i b e n
    cases i with
    | zero =>
      simp at e
      exact absurd e.symm n
    | succ i => exact ih (by simpa using e) n
theorem Stt.wk {K : PySem.W.Frag} {F : Hp} {Γ Γ' : List B} {σ : L2.St} {G H : Hp} (s : Stt K F Γ σ G H) (w : Wk Γ Γ') : Stt K F Γ' σ G H :=
  ⟨s.len.trans w.len, s.sub, fun i x e => s.dat i x (w.get e (by simp)), fun i o e => s.own i o (w.get e (by simp)), fun i j p o o' e1 e2 => s.sep i j p o o' (w.get e1 (by simp)) (w.get e2 (by simp)), fun i xs e => s.bor i xs (w.get e (by simp)), fun i a d fs e => s.exc i a d fs (w.get e (by simp))⟩

/-- the end of a block -/
theorem b_nil {s : S} (h : Wk Γ (Γs s)) : BK X E Γ [] Γs Γb (.go s) := fun F G0 σ G H D st gr post => w_nil (post σ G H (Evl.Ex.refl _) (st.wk h) gr)
/-- slots forgotten -/
theorem b_wk {Γ' : List B} {sts : List Stmt} {k : Ctl S T} (w : Wk Γ Γ') (h : BK X E Γ' sts Γs Γb k) : BK X E Γ sts Γs Γb k := fun F G0 σ G H D st gr post => h F G0 σ G H D (st.wk w) gr post
/-- one's own list stays from here on -/
theorem b_frz (i : Nat) {ds : List D} {sts : List Stmt} {k : Ctl S T} (e : Γ[i]? = some (B.own (.lst ds))) (h : BK X E (Γ.set i (.d (.lst ds))) sts Γs Γb k) : BK X E Γ sts Γs Γb k := fun F G0 σ G H D st gr post => by
  obtain ⟨p, vs, h1, h2, h3, h4, s'⟩ := st.frzL e
  have g1 : Ex G (upd G p (.lst vs)) := Evl.Ex.new h3
  exact h F G0 σ _ H D s' (gr.frz h4 h2 h3) (post.up g1)

/-! ### stores -/
theorem b_setP {τ : Type} {te : TE} {i : Nat} (enc : τ → D) {x : τ} {k : τ → Ctl S T} (hp : PS X st (tAsg te (gName i))) (he : EvD X.K Γ te (enc x)) (hr : ∀ v, v = x → BK X E (Γ.set i (.d (enc v))) rest Γs Γb (k v)) : BK X E Γ (st :: rest) Γs Γb (bnd x k) := fun F G0 σ G H D s gr post =>
  w_cons hp (he F σ G H s _ fun v G1 H1 g1 i1 => hr x rfl F G0 _ G1 H1 D ((s.grow g1).set i i1) (gr.trans g1) (post.up g1.g))
theorem b_setPO {τ : Type} {te : TE} {i : Nat} (enc : τ → OO) {x : τ} {k : τ → Ctl S T} (hp : PS X st (tAsg te (gName i))) (he : EvO X.K Γ te (enc x)) (hr : ∀ v, v = x → BK X E (Γ.set i (.own (enc v))) rest Γs Γb (k v)) : BK X E Γ (st :: rest) Γs Γb (bnd x k) := fun F G0 σ G H D s gr post =>
  w_cons hp (he F σ G H s _ fun p u G1 H1 g1 hp n hn ho => hr x rfl F G0 _ G1 H1 D ((s.grow g1).setO i hp n (Evl.fresh_back gr.h hn) ho fun j o' _ e z => s.fresh hn e z) (gr.trans g1) (post.up g1.g))
variable {lv : Nat} {N : List Str} {sc : Scope} {y : Str} {py : Pos} {e : Expr}
theorem b_set {τ : Type} (i : Nat) (enc : τ → D) {x : τ} {k : τ → Ctl S T} (hX : XOk lv N sc X) (hn : N[i]? = some y) (hl : Loc sc y) (he : ED X Γ e (enc x)) (hr : ∀ v, v = x → BK X E (Γ.set i (.d (enc v))) rest Γs Γb (k v)) (hs : swapsWith e (some (.Name y py)) pos.line X.env = pure false := by exact sw_ns rfl) :
    BK X E Γ (.Assign [.Name y py] e pos :: rest) Γs Γb (bnd x k) := b_setP enc (ps_set hX.nd (hX.nm hn) (hX.lc hl) pe_w hs (.inl (hX.fn y))) he hr
theorem b_setO {τ : Type} (i : Nat) (enc : τ → OO) {x : τ} {k : τ → Ctl S T} (hX : XOk lv N sc X) (hn : N[i]? = some y) (hl : Loc sc y) (he : EO X Γ e (enc x)) (hr : ∀ v, v = x → BK X E (Γ.set i (.own (enc v))) rest Γs Γb (k v)) (hs : swapsWith e (some (.Name y py)) pos.line X.env = pure false := by exact sw_ns rfl) :
    BK X E Γ (.Assign [.Name y py] e pos :: rest) Γs Γb (bnd x k) := b_setPO enc (ps_set hX.nd (hX.nm hn) (hX.lc hl) pe_w hs (.inl (hX.fn y))) he hr
/-- y = [.. for ..] on one row, y a plain local -/
theorem b_setLc {τ : Type} (i : Nat) (enc : τ → OO) {x : τ} {k : τ → Ctl S T} {elt tg iter : Expr} {ifs : List Expr} {scope : Scope} {own : List (Str × Nat)} {cpos : Pos} (hM : XCm X E) (hX : XOk lv N sc X) (hn : N[i]? = some y) (hl : sc.names.lookup y = some .local)
    (hsw : swapsWith (.ListComp elt [⟨tg, iter, ifs, 0⟩] scope cpos) (some (.Name y py)) pos.line X.env = pure true) (he : LcOk X Γ elt tg iter ifs scope own (enc x)) (hr : ∀ v, v = x → BK X E (Γ.set i (.own (enc v))) rest Γs Γb (k v)) (hs : ∀ x, foldedSetIterable iter X.env x = pure x := by exact fs_ns rfl) :
    BK X E Γ (.Assign [.Name y py] (.ListComp elt [⟨tg, iter, ifs, 0⟩] scope cpos) pos :: rest) Γs Γb (bnd x k) := by
  obtain ⟨wi, g, tt, te, h1, h2, h3, h4, h5, h6⟩ := he
  exact b_setPO enc (ps_setLc hM.calm hX.nd (hX.nm hn) (hX.lk hl) hsw h1 h2 h3 h4 h5 hs) h6 hr
/-- a, b, .. = a tuple -/
theorem b_setT {τ : Type} (enc : τ → D) {x : τ} {k : τ → Ctl S T} {tg : Expr} {g : TG} {js : List Nat} (Γ' : τ → List B) (hg : PG X tg g) (htg : ∀ v, TgD X.K g js Γ (enc v) (Γ' v)) (he : ED X Γ e (enc x)) (hr : ∀ v, v = x → BK X E (Γ' v) rest Γs Γb (k v))
    (hs : swapsWithSole [tg] e pos.line X.env = pure false := by exact sws_ns rfl) (hw : swappedStores [tg] e X.env = pure none := by exact sst_ns rfl) (h1 : (assignEach [tg] X.env).map (·.2) = [assign tg X.env] := by rfl) : BK X E Γ (.Assign [tg] e pos :: rest) Γs Γb (bnd x k) := fun F G0 σ G H D s gr post =>
  w_cons (ps_asg pe_w hg hs hw h1) (he F σ G H s _ fun v G1 H1 g1 i1 => htg x F σ G1 H1 v (s.grow g1) i1 _ fun ws s' => hr x rfl F G0 _ G1 H1 D s' (gr.trans g1) (post.up g1.g))

/-! ### return -/
theorem b_ret {x : D} (he : ED X Γ e x) : BK X E Γ (.Return (some e) pos :: rest) Γs Γb (.ret (.v x)) := fun F G0 σ G H D s gr post => w_cons (ps_ret pe_w) (he F σ G H s _ fun v G1 H1 g1 i1 => post v G1 H1 (gr.trans g1) i1)
theorem b_retO {o : OO} (he : EO X Γ e o) : BK X E Γ (.Return (some e) pos :: rest) Γs Γb (.ret (.o o)) := fun F G0 σ G H D s gr post => w_cons (ps_ret pe_w) (he F σ G H s _ fun p u G1 H1 g1 hp n hn ho => post p u G1 H1 (gr.trans g1) hp n (Evl.fresh_back gr.h hn) ho)
theorem b_retN : BK X E Γ (.Return none pos :: rest) Γs Γb (.ret (.v .non)) := fun F G0 σ G H D s gr post => w_cons ps_retN (post .non G H gr .non)
/-- one's own thing in a slot goes out -/
theorem b_retV (i : Nat) {o : OO} (hX : XOk lv N sc X) (hn : N[i]? = some y) (hl : Vis sc y) (h : Γ[i]? = some (B.own o)) (hd : (y == ("__debug__" : Str)) = false := by decide) (hcd : (y == ("__classdict__" : Str)) = false := by decide) : BK X E Γ (.Return (some (.Name y py)) pos :: rest) Γs Γb (.ret (.o o)) := fun F G0 σ G H D s gr post => by
  obtain ⟨p, u, h1, h2, h3, h4, h5⟩ := s.own i o h
  exact w_cons (ps_ret (pe_var (hX.nm hn) (hX.vs hl) hd hcd)) ⟨_, h1, post p u G H gr h2 h3 h4 h5⟩

/-! ### if -/
variable {c : Expr} {b : Bool} {A C : List Stmt}
/-- its body leaves -/
theorem b_ifr {k1 : Ctl Empty T} {k2 : Ctl S T} (hc : ET X Γ c b) (h1 : b = true → BK X E Γ A (fun s : Empty => nomatch s) Γb k1) (h2 : b = false → BK X E Γ rest Γs Γb k2) : BK X E Γ (.If c A [] pos :: rest) Γs Γb (if b = true then k1.up else k2) := fun F G0 σ G H D s gr post =>
  w_cons (ps_if pt_w pss_w pss_nil) (hc F σ G H s _ fun G1 H1 g1 => by
    cases b with
    | true =>
      refine h1 rfl F G0 σ G1 H1 _ (s.grow g1) (gr.trans g1) ?_
      have p := PostC.up post g1.g
      cases k1 with
      | go s => exact nomatch s
      | brk b => exact p
      | ret r => exact p
    | false => exact h2 rfl F G0 σ G1 H1 _ (s.grow g1) (gr.trans g1) (post.up g1.g))
/-- the last statement -/
theorem b_ifl {k1 k2 : Ctl S T} (hc : ET X Γ c b) (h1 : b = true → BK X E Γ A Γs Γb k1) (h2 : b = false → BK X E Γ C Γs Γb k2) : BK X E Γ [.If c A C pos] Γs Γb (if b = true then k1 else k2) := fun F G0 σ G H D s gr post => by
  have nx : ∀ {σ' H'}, D.nx σ' H' → wS X [] D σ' H' := fun h => w_nil h
  have fin : ∀ {k : Ctl S T}, PostC X.K F G0 G E D Γs Γb k → PostC X.K F G0 G E { D with nx := wS X [] D } Γs Γb k := fun {k} h => by
    cases k with
    | go s => exact fun σ' G' H' e st gr => nx (h σ' G' H' e st gr)
    | brk b => exact h
    | ret r => exact h
  exact w_cons (ps_if pt_w pss_w pss_w) (hc F σ G H s _ fun G1 H1 g1 => by
    cases b with
    | true => exact h1 rfl F G0 σ G1 H1 _ (s.grow g1) (gr.trans g1) ((fin post).up g1.g)
    | false => exact h2 rfl F G0 σ G1 H1 _ (s.grow g1) (gr.trans g1) ((fin post).up g1.g))
theorem PostC.bind {S' : Type} {Γj : S' → List B} {K : PySem.W.Frag} {F G0 G : Hp} {D : Ends} {k : Ctl S' T} {kr : S' → Ctl S T} {u : TS} (post : PostC K F G0 G E D Γs Γb (k.bind kr)) (hr : ∀ s', k = .go s' → BlkD K E (Γj s') u Γs Γb (kr s')) : PostC K F G0 G E { D with nx := u D } Γj Γb k := by
  cases k with
  | go s => exact fun σ' G' H' e st gr => hr s rfl F G0 σ' G' H' D st gr (PostC.up post e)
  | brk b => exact post
  | ret r => exact post
/-- a statement, then the rest -/
theorem b_seq {S' : Type} {Γj : S' → List B} {k : Ctl S' T} {kr : S' → Ctl S T} (h : ∀ F G0 σ G H (D : Ends), Stt X.K F Γ σ G H → Grow G0 F G H → PostC X.K F G0 G E D Γj Γb k → ∃ t, PS X st t ∧ t D σ H) (hr : ∀ s', k = .go s' → BK X E (Γj s') rest Γs Γb (kr s')) : BK X E Γ (st :: rest) Γs Γb (k.bind kr) := fun F G0 σ G H D s gr post => by
  obtain ⟨t, h1, h2⟩ := h F G0 σ G H _ s gr (post.bind hr)
  exact w_cons h1 h2
theorem b_ifj {S' : Type} {Γj : S' → List B} {k1 k2 : Ctl S' T} {kr : S' → Ctl S T} (hc : ET X Γ c b) (h1 : b = true → BK X E Γ A Γj Γb k1) (h2 : b = false → BK X E Γ C Γj Γb k2) (hr : ∀ s', (if b = true then k1 else k2) = .go s' → BK X E (Γj s') rest Γs Γb (kr s')) : BK X E Γ (.If c A C pos :: rest) Γs Γb ((if b = true then k1 else k2).bind kr) :=
  b_seq (fun F G0 σ G H D s gr post => ⟨_, ps_if pt_w pss_w pss_w, hc F σ G H s _ fun G1 H1 g1 => by
    cases b with
    | true => exact h1 rfl F G0 σ G1 H1 _ (s.grow g1) (gr.trans g1) (post.up g1.g)
    | false => exact h2 rfl F G0 σ G1 H1 _ (s.grow g1) (gr.trans g1) (post.up g1.g)⟩) hr

/-! ### for -/
theorem loop_drop {Y T : Type} {step : S → Y → Ctl S S} {s : S} {ys : List Y} {i : Nat} {y : Y} (h : ys[i]? = some y) : (loop step s (ys.drop i) : Ctl S T) = match step s y with
    | .go s' => loop step s' (ys.drop (i + 1))
    | .brk s' => .go s'
    | .ret r => .ret r := by
  have e : ys.drop i = y :: ys.drop (i + 1) := by
    obtain ⟨hl, hy⟩ := List.getElem?_eq_some_iff.mp h
    rw [List.drop_eq_getElem_cons hl, hy]
  rw [e]
  rfl
theorem b_for {S' Y : Type} {Γl : S' → List B} {kr : S' → Ctl S T} {tg iter : Expr} {body : List Stmt} {g : TG} {js : List Nat} (Iv : Nat → S' → Prop) (encY : Y → D) (step : S' → Y → Ctl S' S') (s0 : S') (ys : List Y) (Γy : S' → Y → List B) (hM : XCm X E) (hX : XOk lv N sc X)
    (h0 : Wk Γ (Γl s0)) (i0 : Iv 0 s0) (hi : IT X Γ tg iter (ys.map encY)) (hg : PG X tg g) (htg : ∀ s y, TgD X.K g js (Γl s) (encY y) (Γy s y))
    (hb : ∀ i s y, ys[i]? = some y → Iv i s → BK X E (Γy s y) body Γl Γl (step s y)) (hv : ∀ i s y s', ys[i]? = some y → Iv i s → step s y = .go s' → Iv (i + 1) s')
    (hr : ∀ s, (loop step s0 ys : Ctl S' T) = .go s → BK X E (Γl s) rest Γs Γb (kr s)) (hs : ∀ x, foldedSetIterable iter X.env x = pure x := by exact fs_ns rfl) : BK X E Γ (.For tg iter body [] pos :: rest) Γs Γb ((loop step s0 ys).bind kr) := by
  obtain ⟨wi, p1, p2⟩ := hi
  refine b_seq (Γj := Γl) (fun F G0 σ G H D s gr post => ⟨_, ps_for hM.pown hM.calm p1 hg pss_w hs, p2 F σ G H s _ fun J Gd Yv G1 H1 g1 W hGd hY => ?_⟩) hr
  have hlen : (ys.map encY).length = ys.length := List.length_map _
  rw [hlen] at W
  refine for_it (g := g) (tb := wS X body) (D := D) W (fun i σ' H' => ∃ G' s', Ex G1 G' ∧ Iv i s' ∧ Stt X.K F (Γl s') σ' G' H' ∧ Grow G0 F G' H' ∧ PostC X.K F G0 G' E D Γl Γb (loop step s' (ys.drop i))) ?_ (fun i σ' H' _ ⟨G', s', e, _, st, _⟩ => hGd G' H' e st.sub) ?_ ?_
  · exact ⟨G1, s0, Evl.Ex.refl _, i0, (s.grow g1).wk h0, gr.trans g1, post.up g1.g⟩
  · rintro i x σ' H2 H3 hi ⟨G2, s', e2, iv, st, gr2, po⟩ hy
    obtain ⟨G3, xd, hx, gr3, ix⟩ := hY i G2 H2 x H3 e2 st.sub hy
    rw [List.getElem?_map] at hx
    cases hyi : ys[i]? with
    | none =>
      rw [hyi] at hx
      cases hx
    | some y =>
      rw [hyi] at hx
      cases hx
      refine htg s' y F σ' G3 H3 x (st.grow gr3) ix _ fun ws st4 => ?_
      have po3 := po.up gr3.g
      rw [loop_drop hyi] at po3
      have hvy := hv i s' y
      have hby := hb i s' y hyi iv F G0 _ G3 H3 { D with nx := fun σ' H' => ∃ G' s', Ex G1 G' ∧ Iv (i + 1) s' ∧ Stt X.K F (Γl s') σ' G' H' ∧ Grow G0 F G' H' ∧ PostC X.K F G0 G' E D Γl Γb (loop step s' (ys.drop (i + 1))), ct := fun σ' H' => ∃ G' s', Ex G1 G' ∧ Iv (i + 1) s' ∧ Stt X.K F (Γl s') σ' G' H' ∧ Grow G0 F G' H' ∧ PostC X.K F G0 G' E D Γl Γb (loop step s' (ys.drop (i + 1))), bk := D.nx } st4 (gr2.trans gr3)
      refine hby ?_
      cases hst : step s' y with
      | go s2 =>
        rw [hst] at po3
        exact fun σ5 G5 H5 e5 st5 gr5 => ⟨G5, s2, (e2.trans gr3.g).trans e5, hvy s2 hyi iv hst, st5, gr5, PostC.up po3 e5⟩
      | brk s2 =>
        rw [hst] at po3
        exact fun σ5 G5 H5 e5 st5 gr5 => po3 σ5 G5 H5 e5 st5 gr5
      | ret r =>
        rw [hst] at po3
        exact po3
  · rintro σ' H' ⟨G', s', e, iv, st, gr2, po⟩
    rw [List.drop_length] at po
    exact po σ' G' H' (Evl.Ex.refl _) st gr2
end

/-! ### one's own lists change -/
section
variable {X : Cx} {E : XK} {Γ : List B} {S T : Type} {Γs : S → List B} {Γb : T → List B} {rest : List Stmt} {pos : Pos} {lv : Nat} {N : List Str} {sc : Scope} {y : Str} {py : Pos} {e : Expr} {apos cpos : Pos}
/-- y.append(e) -/
theorem b_app {τ : Type} (i : Nat) (enc : τ → D) {xs : List τ} {x : τ} {k : List τ → Ctl S T} (hX : XOk lv N sc X) (hn : N[i]? = some y) (hl : Vis sc y) (h : Γ[i]? = some (B.own (.lst (xs.map enc)))) (he : ED X Γ e (enc x)) (hz : xs.length < sizeLine)
    (hr : ∀ zs, zs = xs ++ [x] → BK X E (Γ.set i (.own (.lst (zs.map enc)))) rest Γs Γb (k zs))
    (hs : swapsWith (.Call (.Attribute (.Name y py) "append" apos) [e] [] cpos) none pos.line X.env = pure false := by exact sw_ns rfl)
    (hbase : attributeBase (.Name y py) "append" X.env (eval (.Name y py) X.env) = eval (.Name y py) X.env := by exact ab_ns rfl) (hline : (apos.endLine == cpos.line) = true := by rfl)
    (hfew : ((backTo cpos (starEach (e :: []) X.env)).all (fun x => !x.1) && (backToKw cpos (keywordEach [] X.env)).all (fun x => x.1.isSome) && decide ((e :: ([] : List Expr)).length + ([] : List Keyword).length + (if ([] : List Keyword).isEmpty then 0 else 1) < 30)) = true := by exact few_ok rfl)
    (hst : starEach (e :: []) X.env = (false, eval e X.env) :: starEach [] X.env := by exact starEach_ns rfl) (hplain : (backTo cpos (starEach [] X.env)).any (·.1) = false := by exact plain_ok rfl) (hd : (y == ("__debug__" : Str)) = false := by decide) (hcd : (y == ("__classdict__" : Str)) = false := by decide) :
    BK X E Γ (.Expr (.Call (.Attribute (.Name y py) "append" apos) [e] [] cpos) pos :: rest) Γs Γb (bnd (xs ++ [x]) k) := fun F G0 σ G H D s gr post => by
  obtain ⟨p, u, h1, h2, h3, h4, h5⟩ := s.own i _ h
  obtain ⟨vs, rfl, iv⟩ := h5.lst
  refine w_cons (ps_expr (pe_bm PySem.F.plainAttrs_list PySem.F.slot_list_append PySem.F.type_list_append mt_append (pe_var (hX.nm hn) (hX.vs hl) hd hcd) (pa_cons pe_w pa_nil hst) hbase hfew hline hst hplain) hs) ?_
  refine ⟨_, h1, .inl ⟨rfl, vs, .inl (.inl h2)⟩, he F σ G H s _ fun v G1 H1 g1 i1 => ?_⟩
  have s1 := s.grow g1
  have nG : G1 p = none := g1.f p _ h2 h3
  refine ⟨p, vs, v, rfl, rfl, g1.h _ _ h2, by rw [iv.len, List.length_map]; exact hz, ?_⟩
  have s2 := s1.mut (u := .lst (vs ++ [v])) (o' := .lst ((xs ++ [x]).map enc)) h h1 (by
    show IsAll _ _ _ _
    rw [List.map_append]
    exact (iv.up g1.g).app (.cons i1 .nil))
  have g2 := gr.trans g1
  refine hr (xs ++ [x]) rfl F G0 σ G1 _ D s2 ⟨g2.g, fun b o eo => ?_, s2.sub, g2.f⟩ (post.up g1.g)
  rw [upd_ne (ne_of_none eo h4)]
  exact g2.h b o eo
end

/-! ### defs -/
def spF (K : PySem.W.Frag) {A : Type} (enc : A → List D) (pre : A → Prop) (res : A → Res) : Sp := fun vs H Q E => ∃ (a : A) (G : Hp), Ex G H ∧ IsAll K G vs (enc a) ∧ pre a ∧ PostR K H G E Q (res a)
theorem len_map_app {α β : Type} (xs : List α) (f : α → β) (n : Nat) (b : β) : (xs.map f ++ List.replicate n b).length = xs.length + n := by simp
theorem stt_start {K : PySem.W.Frag} {vs : List V} {ds : List D} {G H : Hp} {N : List Str} (h : IsAll K G vs ds) (ex : Ex G H) : Stt K H (ds.map B.d ++ List.replicate (N.length - ds.length) B.un) (L2.start N vs) G H := by
  have hl := h.len
  have get : ∀ {i : Nat} {b : B}, (ds.map B.d ++ List.replicate (N.length - ds.length) B.un)[i]? = some b → b ≠ .un → ∃ d, b = .d d ∧ ds[i]? = some d := fun {i b} e n => by
    by_cases hi : i < ds.length
    · rw [List.getElem?_append_left (by simpa using hi), List.getElem?_map] at e
      cases hd : ds[i]? with
      | none =>
        rw [hd] at e
        cases e
      | some d =>
        rw [hd] at e
        exact ⟨d, (Option.some.inj e).symm, rfl⟩
    · rw [List.getElem?_append_right (by simpa using Nat.le_of_not_lt hi), List.getElem?_replicate] at e
      split at e
      · exact absurd (Option.some.inj e).symm n
      · cases e
  refine ⟨by simp [L2.start, hl], ex, fun i x e => ?_, fun i o e => ?_, fun i j p o o' e _ _ _ => ?_, fun i xs e => ?_, fun i xa xd xf e => ?_⟩
  · obtain ⟨d, h1, h2⟩ := get e (by simp)
    cases h1
    obtain ⟨v, h3, h4⟩ := h.get h2
    refine ⟨v, ?_, h4⟩
    unfold L2.start
    rw [List.getElem?_append_left (by simpa using (List.getElem?_eq_some_iff.mp h3).1), List.getElem?_map, h3]
    rfl
  · obtain ⟨d, h1, _⟩ := get e (by simp)
    cases h1
  · obtain ⟨d, h1, _⟩ := get e (by simp)
    cases h1
  · obtain ⟨d, h1, _⟩ := get e (by simp)
    cases h1
  · obtain ⟨d, h1, _⟩ := get e (by simp)
    cases h1
section
variable {P : Program} {w : World} {K : PySem.W.Frag} {mg : Str → Option Value} {base : Heap} {x qual : Str} {st : Stmt} {f : Addr} {fd : FuncData} {N ps : List Str} {lv : Nat} {A : Type} {enc : A → List D} {pre : A → Prop} {res : A → Res}
theorem def_ok (F : Fun K x qual st f fd) (S : FnScope N ps (defScope st)) (hlen : ∀ a, (enc a).length = ps.length)
    (hb : ∀ a, pre a → ∀ (X : Cx) (E : XK), X.prog = P → X.w = w → X.K = K → X.mg = mg → X.base = base → XOk lv N (defScope st) X → XCm X E →
      BK X E ((enc a).map B.d ++ List.replicate (N.length - (enc a).length) B.un) (defBody st) (fun s : Unit => List.replicate N.length B.un) (fun s : Empty => nomatch s) (Ctl.ret (res a))) : FnOk P w K mg base (L2.CX P w) (lv + 1) f fd ps (spF K enc pre res) := by
  refine F.okX S (fun vs H Q E h => ?_) (fun cdv Ar outer s H vs Q E hr h => ?_)
  · obtain ⟨a, G, _, h2, _⟩ := h
    rw [h2.len, hlen]
  · obtain ⟨a, G, h1, h2, h3, h4⟩ := h
    generalize hX : cxOf (L2.CX P w) P w K mg base N qual (defScope st) f cdv Ar outer s H E = X
    have ok : XOk lv N (defScope st) X := by
      subst hX
      exact ⟨⟨hr.dp, hr.un⟩, fun _ => rfl, rfl, rfl, S.nd, S.kind, rfl, rfl⟩
    have cm : XCm X E := by
      subst hX
      exact ⟨rfl, hr.hd, passes_of rfl, takes_of rfl rfl rfl rfl⟩
    have b := hb a h3 X E (by subst hX; rfl) (by subst hX; rfl) (by subst hX; rfl) (by subst hX; rfl) (by subst hX; rfl) ok cm
    have hK : X.K = K := by subst hX; rfl
    refine ⟨wS X (defBody st), pss_w, ?_⟩
    refine b H G _ G H _ ?_ (Grow.refl h1) ?_
    · rw [hK]
      exact stt_start h2 h1
    · rw [hK]
      exact h4
/-- a def that falls through -/
theorem def_okN (F : Fun K x qual st f fd) (S : FnScope N ps (defScope st)) (hlen : ∀ a, (enc a).length = ps.length) (k : A → Ctl Unit Empty) (hk : ∀ a, pre a → match k a with | .go _ => res a = .v .non | .brk b => nomatch b | .ret r => res a = r)
    (hb : ∀ a, pre a → ∀ (X : Cx) (E : XK), X.prog = P → X.w = w → X.K = K → X.mg = mg → X.base = base → XOk lv N (defScope st) X → XCm X E →
      BK X E ((enc a).map B.d ++ List.replicate (N.length - (enc a).length) B.un) (defBody st) (fun s : Unit => List.replicate N.length B.un) (fun s : Empty => nomatch s) (k a)) : FnOk P w K mg base (L2.CX P w) (lv + 1) f fd ps (spF K enc pre res) := by
  refine F.okX S (fun vs H Q E h => ?_) (fun cdv Ar outer s H vs Q E hr h => ?_)
  · obtain ⟨a, G, _, h2, _⟩ := h
    rw [h2.len, hlen]
  · obtain ⟨a, G, h1, h2, h3, h4⟩ := h
    generalize hX : cxOf (L2.CX P w) P w K mg base N qual (defScope st) f cdv Ar outer s H E = X
    have ok : XOk lv N (defScope st) X := by
      subst hX
      exact ⟨⟨hr.dp, hr.un⟩, fun _ => rfl, rfl, rfl, S.nd, S.kind, rfl, rfl⟩
    have cm : XCm X E := by
      subst hX
      exact ⟨rfl, hr.hd, passes_of rfl, takes_of rfl rfl rfl rfl⟩
    have b := hb a h3 X E (by subst hX; rfl) (by subst hX; rfl) (by subst hX; rfl) (by subst hX; rfl) (by subst hX; rfl) ok cm
    have hK : X.K = K := by subst hX; rfl
    have hk' := hk a h3
    refine ⟨wS X (defBody st), pss_w, ?_⟩
    refine b H G _ G H _ ?_ (Grow.refl h1) ?_
    · rw [hK]
      exact stt_start h2 h1
    · rw [hK]
      cases hka : k a with
      | go u =>
        rw [hka] at hk'
        have e : res a = .v .non := hk'
        rw [e] at h4
        exact fun σ' G' H' _ _ gr => h4 .non G' H' gr .non
      | brk b => exact nomatch b
      | ret r =>
        rw [hka] at hk'
        have e : res a = r := hk'
        rw [← e]
        exact h4
end

/-! ### calls -/
structure Kn (P : Program) (w : World) (K : PySem.W.Frag) (mg : Str → Option Value) (base : Heap) (x : Str) (lv : Nat) (sp : Sp) : Prop where
  ex : ∃ (f : Addr) (fd : FuncData) (ps : List Str), FnOk P w K mg base (L2.CX P w) lv f fd ps sp ∧ mg x = some (.ref f) ∧ PySem.W.keepIn K (.ref f) = true ∧ Binds K fd ps []
abbrev KnX (X : Cx) (x : Str) (lv : Nat) (sp : Sp) : Prop := Kn X.prog X.w X.K X.mg X.base x lv sp
section
variable {X : Cx} {Γ : List B} {pos p : Pos} {x : Str} {lv : Nat} {A : Type} {enc : A → List D} {pre : A → Prop} {res : A → Res} {e : Expr} {es : List Expr}
theorem ed_call (a : A) {z : D} (hk : KnX X x lv (spF X.K enc pre res)) (hr : Room lv X.A) (hg : Gl X x) (ha : EA X Γ (e :: es) (enc a)) (hp : pre a) (hv : res a = .v z)
    (hdb : (x == ("__debug__" : Str)) = false := by decide) (he : starEach (e :: es) X.env = (false, eval e X.env) :: starEach es X.env := by exact starEach_ns rfl) (hpl : (backTo pos (starEach es X.env)).any (·.1) = false := by exact plain_ok rfl) : ED X Γ (.Call (.Name x p) (e :: es) [] pos) z := by
  obtain ⟨f, fd, ps, h1, h2, h3, h4⟩ := hk.ex
  refine ed_of (pe_call h1 hr hg h2 h3 h4 .nil passL pa_w hdb he hpl) fun F σ G H s Q q => ha F σ G H s _ fun vs G1 H1 g1 i1 => ?_
  rw [List.append_nil]
  refine ⟨a, G1, g1.s, i1, hp, ?_⟩
  rw [hv]
  exact fun v G2 H2 g2 i2 => q v G2 H2 (g1.trans g2) i2
theorem eo_call (a : A) {z : OO} (hk : KnX X x lv (spF X.K enc pre res)) (hr : Room lv X.A) (hg : Gl X x) (ha : EA X Γ (e :: es) (enc a)) (hp : pre a) (hv : res a = .o z)
    (hdb : (x == ("__debug__" : Str)) = false := by decide) (he : starEach (e :: es) X.env = (false, eval e X.env) :: starEach es X.env := by exact starEach_ns rfl) (hpl : (backTo pos (starEach es X.env)).any (·.1) = false := by exact plain_ok rfl) : EO X Γ (.Call (.Name x p) (e :: es) [] pos) z := by
  obtain ⟨f, fd, ps, h1, h2, h3, h4⟩ := hk.ex
  refine eo_of (pe_call h1 hr hg h2 h3 h4 .nil passL pa_w hdb he hpl) fun F σ G H s Q q => ha F σ G H s _ fun vs G1 H1 g1 i1 => ?_
  rw [List.append_nil]
  refine ⟨a, G1, g1.s, i1, hp, ?_⟩
  rw [hv]
  exact fun p u G2 H2 g2 hp n hn ho => q p u G2 H2 (g1.trans g2) hp n (Evl.fresh_back g1.h hn) ho
end
end Sd

namespace Sd
open PySem PySem.Spec PyProof.Rows L2

/-! ### within a comprehension's block -/
section
variable {lv : Nat} {N : List Str} {sc : Scope} {X : Cx} {E : XK} {scope : Scope} {s : Shared} {H : Hp} {C : Addr} {cl : List (Str × Addr)} {fp : List Addr} {x : Str}
theorem blk_lk (hX : XOk lv N sc X) {k : NameKind} (h : (relS scope sc).names.lookup x = some k) : (blkX X scope s H C cl fp).env.scope.names.lookup x = some k := by
  show (relS scope X.env.scope).names.lookup x = some k
  rw [hX.hsc]
  exact h
theorem blk_vs (hX : XOk lv N sc X) (h : Vis (relS scope sc) x) : Vis (blkX X scope s H C cl fp).env.scope x := by
  show Vis (relS scope X.env.scope) x
  rw [hX.hsc]
  exact h
theorem blk_lc (hX : XOk lv N sc X) (h : Loc (relS scope sc) x) : Loc (blkX X scope s H C cl fp).env.scope x := by
  show Loc (relS scope X.env.scope) x
  rw [hX.hsc]
  exact h
theorem blk_gl (hX : XOk lv N sc X) (h : (relS scope sc).names.lookup x = some .globalImplicit) : Gl (blkX X scope s H C cl fp) x := blk_lk hX h
theorem blk_ok (hX : XOk lv N sc X) {own : List (Str × Nat)} (h : blkC N sc scope own = true) : BlkOk X.N X.env.scope scope own := by
  rw [hX.hN, hX.hsc]
  exact blkOk_by h
theorem sw_yes (hX : XOk lv N sc X) {elt : Expr} {gs : List Comprehension} {pos py : Pos} {l : Nat} (hy : sc.names.lookup x = some .local) (ha : ((py.line == pos.line) && !(scope.names.any fun (n, k) => n == x && (k == .local || k == .cell))) = true) : swapsWith (.ListComp elt gs scope pos) (some (.Name x py)) l X.env = pure true := by
  rw [Bool.and_eq_true, Bool.not_eq_true'] at ha
  exact sw_true hX.kd (hX.lk hy) ha.1 ha.2
theorem sw_no (hX : XOk lv N sc X) {elt : Expr} {gs : List Comprehension} {pos py : Pos} {l : Nat} (hy : sc.names.lookup x = some .cell) : swapsWith (.ListComp elt gs scope pos) (some (.Name x py)) l X.env = pure false := by
  have ky : X.env.kindOf x = some .cell := hX.lk hy
  have hb : X.env.blockKind = .function := by unfold Env.blockKind; rw [hX.kd]; rfl
  unfold swapsWith
  simp only [hb, ky]
  rfl
end

/-! ### lists by their Lean lists -/
section
variable {X : Cx} {Γ : List B} {pos p : Pos} {a b : Expr} {τ υ : Type} {enc : τ → D} {enc' : υ → D} {xs ys : List τ} {zs : List υ}
theorem eo_catM (ha : EL X Γ a (xs.map enc)) (hb : EL X Γ b (ys.map enc)) (hl : xs.length + ys.length ≤ sizeLine) : EO X Γ (.BinOp a .Add b pos) (.lst ((xs ++ ys).map enc)) := by
  rw [List.map_append]
  exact eo_cat ha hb (by rw [List.length_map, List.length_map]; exact hl)
theorem map_rep (f : τ → υ) (xs : List τ) (n : Nat) : (List.replicate n xs).flatten.map f = (List.replicate n (xs.map f)).flatten := by
  rw [List.map_flatten, List.map_replicate]
theorem eo_repM {k : Int} (ha : EL X Γ a (xs.map enc)) (hb : ED X Γ b (.int k)) (h1 : -(2 ^ 63) ≤ k ∧ k < 2 ^ 63) (hl : xs.length * k.toNat ≤ sizeLine) : EO X Γ (.BinOp a .Mult b pos) (.lst ((List.replicate k.toNat xs).flatten.map enc)) := by
  rw [map_rep]
  exact eo_rep ha hb h1 (by rw [List.length_map]; exact hl)
theorem eo_slM {lo hi : Option Expr} {i j : Option Int} {p2 : Pos} (ha : EL X Γ a (xs.map enc)) (hl : EPo X Γ lo i) (hu : EPo X Γ hi j) : EO X Γ (.Subscript a (.Slice lo hi none p2) pos) (.lst ((cutL xs i j).map enc)) := by
  rw [← cutL_map]
  exact eo_slL ha hl hu
theorem ed_lenM (hg : Gl X "len") (hm : X.mg "len" = none) (ha : EL X Γ a (xs.map enc)) (he : starEach [a] X.env = (false, eval a X.env) :: starEach [] X.env := by exact starEach_ns rfl) (hpl : (backTo pos (starEach [] X.env)).any (·.1) = false := by exact plain_ok rfl) : ED X Γ (.Call (.Name "len" p) [a] [] pos) (.int xs.length) := by
  have h := ed_lenL (p := p) (pos := pos) hg hm ha he hpl
  rw [List.length_map] at h
  exact h
theorem it_zipM {elts : List Expr} {kk : Nat} {tpos : Pos} (hg : Gl X "zip") (hm : X.mg "zip" = none) (ha : ED X Γ a (.lst (xs.map enc))) (hb : ED X Γ b (.lst (zs.map enc'))) (hs : starEach [a, b] X.env = (false, eval a X.env) :: starEach [b] X.env := by exact starEach_ns rfl) (hs2 : starEach [b] X.env = (false, eval b X.env) :: starEach [] X.env := by exact starEach_ns rfl) (hpl : (backTo pos (starEach [b] X.env)).any (·.1) = false := by exact plain_ok rfl) :
    IT X Γ (.Tuple elts kk tpos) (.Call (.Name "zip" p) [a, b] [] pos) ((xs.zip zs).map fun z => .tup [enc z.1, enc' z.2]) := by
  have h := it_zip (elts := elts) (kk := kk) (tpos := tpos) (p := p) (pos := pos) hg hm ha hb hs hs2 hpl
  rw [List.zip_map, List.map_map] at h
  exact h
theorem it_enumM {elts : List Expr} {kk : Nat} {tpos : Pos} (hg : Gl X "enumerate") (hm : X.mg "enumerate" = none) (ha : ED X Γ a (.lst (xs.map enc))) (hs : starEach [a] X.env = [(false, eval a X.env)] := by exact starEach_ns rfl) :
    IT X Γ (.Tuple elts kk tpos) (.Call (.Name "enumerate" p) [a] [] pos) ((enumI xs).map fun z => .tup [.int z.1, enc z.2]) := by
  have h := it_enum (elts := elts) (kk := kk) (tpos := tpos) (p := p) (pos := pos) hg hm ha hs
  have e : ((enumI xs).map fun z => D.tup [.int z.1, enc z.2]) = ((xs.map enc).zipIdx.map fun z => D.tup [.int (z.2 : Int), z.1]) := by
    unfold enumI
    rw [List.map_map, List.zipIdx_map, List.map_map]
    rfl
  rw [e]
  exact h
end

/-! ### one's own list as data, where the answer is flat -/
def flatD : D → Bool
  | .non => true | .bl _ => true | .int _ => true | .str _ => true | _ => false
theorem Is.flat {K : PySem.W.Frag} {G G' : Hp} {v : V} {d : D} (h : Is K G v d) (f : flatD d = true) : Is K G' v d := by
  cases h with
  | non => exact .non
  | bl b => exact .bl b
  | int i => exact .int i
  | str l k => exact .str l k
  | _ => cases f
theorem Grow.lend {G H G' H' : Hp} {p : Addr} {u : HO} (g : Grow (upd G p u) H G' H') (n : G p = none) : Grow G H (fun b => if b = p then none else G' b) H' := by
  refine ⟨fun b o e => ?_, g.h, fun b o e => ?_, fun b o e m => ?_⟩
  · have hb : b ≠ p := ne_of_none e n
    show (if b = p then none else G' b) = some o
    rw [if_neg hb]
    exact g.g b o (by rw [upd_ne hb]; exact e)
  · have e' : (if b = p then none else G' b) = some o := e
    by_cases hb : b = p
    · rw [if_pos hb] at e'
      cases e'
    · rw [if_neg hb] at e'
      exact g.s b o e'
  · show (if b = p then none else G' b) = none
    by_cases hb : b = p
    · rw [if_pos hb]
    · rw [if_neg hb]
      exact g.f b o e (by rw [upd_ne hb]; exact m)
section
variable {K : PySem.W.Frag} {X : Cx} {Γ : List B} {e : Expr} {ds : List D} {x : D} {b : Bool}
theorem ed_lend (i : Nat) (h : Γ[i]? = some (B.own (.lst ds))) (hf : flatD x = true) (he : ED X (Γ.set i (.d (.lst ds))) e x) : ED X Γ e x := fun F σ G H s Q q => by
  obtain ⟨p, vs, h1, h2, h3, h4, s'⟩ := s.frzL h
  exact he F σ _ H s' Q fun v G' H' g i => q v _ H' (g.lend h3) (i.flat hf)
theorem et_lend (i : Nat) (h : Γ[i]? = some (B.own (.lst ds))) (he : ET X (Γ.set i (.d (.lst ds))) e b) : ET X Γ e b := fun F σ G H s Q q => by
  obtain ⟨p, vs, h1, h2, h3, h4, s'⟩ := s.frzL h
  exact he F σ _ H s' Q fun G' H' g => q _ H' (g.lend h3)
end

/-! ### isinstance of anything -/
def isiD (n : String) (d : D) : Bool := ((tyD d).bind fun t => kitB t n).getD false
section
variable {X : Cx} {Γ : List B} {pos p : Pos} {a b : Expr} {x : D}
theorem ed_isiD {n : String} {r : Bool} (hg : Gl X "isinstance") (hm : X.mg "isinstance" = none) (ha : ED X Γ a x) (hb : ED X Γ b (.ty n)) (hk : (tyD x).bind (fun t => kitB t n) = some r) (he : starEach [a, b] X.env = (false, eval a X.env) :: starEach [b] X.env := by exact starEach_ns rfl) (he2 : starEach [b] X.env = (false, eval b X.env) :: starEach [] X.env := by exact starEach_ns rfl)
    (hpl : (backTo pos (starEach [b] X.env)).any (·.1) = false := by exact plain_ok rfl) : ED X Γ (.Call (.Name "isinstance" p) [a, b] [] pos) (.bl r) := by
  cases ht : tyD x with
  | none =>
    rw [ht] at hk
    cases hk
  | some t =>
    rw [ht] at hk
    exact ed_isi hg hm ha hb ht hk he he2 hpl
end
section
variable {X : Cx} {Γ : List B} {pos : Pos} {a b : Expr}
/-- 1 << k -/
theorem od_shlW (k : Nat) (j : Int) (h : k ≤ 134217727) (e : j = (k : Int)) : OpD X (binaryOp .LShift) (.int 1) (.int j) (.int (2 ^ k)) := by
  rw [e]
  exact od_shl1 k h
end

def B16 : Int := 2 ^ 16000
theorem od_andB {X : Cx} (i : Int) : OpD X (binaryOp .BitAnd) (.int i) (.int ((2 : Int) ^ 16000 - 1)) (.int (i % B16)) := od_andM i _ 16000 rfl
/-! ### xs[i] = e of one's own list -/
section
variable {X : Cx} {E : XK} {Γ : List B} {S T : Type} {Γs : S → List B} {Γb : T → List B} {rest : List Stmt} {pos spos : Pos} {lv : Nat} {N : List Str} {sc : Scope} {y : Str} {py : Pos} {e ie : Expr}
theorem sst_sub {a b e : Expr} {p : Pos} {env : Env} : swappedStores [.Subscript a b p] e env = pure none := by
  unfold swappedStores
  cases e <;> rfl
theorem b_setI {τ : Type} (i : Nat) (enc : τ → D) {xs : List τ} {x : τ} {n : Nat} {k : List τ → Ctl S T} (hX : XOk lv N sc X) (hn : N[i]? = some y) (hl : Vis sc y) (h : Γ[i]? = some (B.own (.lst (xs.map enc)))) (he : ED X Γ e (enc x)) (hi : ED X Γ ie (.int (n : Int))) (hz : n < xs.length)
    (hr : ∀ zs, zs = xs.set n x → BK X E (Γ.set i (.own (.lst (zs.map enc)))) rest Γs Γb (k zs)) (hst : PSet X rSetL := by exact set_list)
    (hs : swapsWithSole [.Subscript (.Name y py) ie spos] e pos.line X.env = pure false := by exact sws_ns rfl) (hw : swappedStores [.Subscript (.Name y py) ie spos] e X.env = pure none := by exact sst_sub) (h1 : (assignEach [.Subscript (.Name y py) ie spos] X.env).map (·.2) = [assign (.Subscript (.Name y py) ie spos) X.env] := by rfl)
    (ha : ∀ v, assign (.Subscript (.Name y py) ie spos) X.env v = (do
      let ov ← holding [v] (eval (.Name y py) X.env)
      let iv ← holding [v, ov] (eval ie X.env)
      standAt spos
      holding [v, ov, iv] (setItem ov iv v)
      release [v, ov, iv] []) := by intro _; rfl) (hd : (y == ("__debug__" : Str)) = false := by decide) (hcd : (y == ("__classdict__" : Str)) = false := by decide) :
    BK X E Γ (.Assign [.Subscript (.Name y py) ie spos] e pos :: rest) Γs Γb (bnd (xs.set n x) k) := fun F G0 σ G H D s gr post => by
  obtain ⟨p, u, k1, k2, k3, k4, k5⟩ := s.own i _ h
  obtain ⟨vs, rfl, iv⟩ := k5.lst
  refine w_cons (ps_asg pe_w (pg_sub (pe_var (hX.nm hn) (hX.vs hl) hd hcd) pe_w hst ha) hs hw h1) ?_
  refine he F σ G H s _ fun v G1 H1 g1 i1 => ⟨_, k1, hi F σ G1 H1 (s.grow g1) _ fun w G2 H2 g2 i2 => ?_⟩
  cases i2
  have g := g1.trans g2
  have s2 := s.grow g
  have hlen : vs.length = xs.length := by rw [iv.len, List.length_map]
  refine ⟨p, vs, (n : Int), n, rfl, rfl, g.h _ _ k2, Evl.ixN_nat (by omega), ?_⟩
  have s3 := s2.mut (u := .lst (vs.set n v)) (o' := .lst ((xs.set n x).map enc)) h k1 (by
    show IsAll _ _ _ _
    rw [List.map_set]
    exact (iv.up g.g).set n (i1.up g2.g))
  have g3 := gr.trans g
  refine hr (xs.set n x) rfl F G0 σ G2 _ D s3 ⟨g3.g, fun b o eo => ?_, s3.sub, g3.f⟩ (post.up g.g)
  rw [upd_ne (ne_of_none eo k4)]
  exact g3.h b o eo
end
theorem wk_un (Γ Γ' : List B) (h : Γ' = List.replicate Γ.length B.un) : Wk Γ Γ' := by
  subst h
  induction Γ with
  | nil => exact .nil
  | cons b Γ ih => exact .drop ih
end Sd
namespace Sd
open PySem L2
end Sd
namespace Sd
open PySem L2
theorem ix_mem {α : Type} {xs : List α} {i : Int} (d : α) (h : -(xs.length : Int) ≤ i ∧ i < xs.length) : ix xs i d ∈ xs := at_mem (ix_ok (d := d) h)
theorem ix_all {α : Type} {P : α → Prop} {xs : List α} {i : Int} {d : α} (hp : ∀ x ∈ xs, P x) (h : -(xs.length : Int) ≤ i ∧ i < xs.length) : P (ix xs i d) := hp _ (ix_mem d h)
end Sd
namespace Sd
open PySem PySem.Spec PyProof.Rows L2
/-! small dicts -/
section
variable {X : Cx} {Γ : List B} {pos : Pos} {k v : Expr} {x : D}
theorem ed_dict0 : ED X Γ (.Dict [] [] pos) (.dct []) := ed_of pe_dnewK fun F σ G H s Q q p hp => q _ _ _ (Grow.new s.sub hp) (.dct upd_same .nil)
theorem ed_dict1 {l : List Nat} (hk : ED X Γ k (.str l)) (hv : ED X Γ v x) : ED X Γ (.Dict [some k] [v] pos) (.dct [(.inr (S l), x)]) :=
  ed_of (pe_disp (pps_cons pe_w pe_w pps_nil) rfl rfl (by simp) (by show 1 ≤ 15; decide)) fun F σ G H s Q q p hp => by
    have g0 : Grow G H G (upd H p (.dK [])) := Grow.lay s.sub hp
    refine hk F σ G _ (s.grow g0) _ fun u G1 H1 g1 i1 => hv F σ G1 H1 ((s.grow g0).grow g1) _ fun w G2 H2 g2 i2 => ?_
    have ok := i1.strOk
    cases i1
    have hp2 : H2 p = some (.dK []) := g2.h _ _ (g1.h _ _ upd_same)
    have n2 : G2 p = none := g2.f p _ (g1.h _ _ upd_same) (g1.f p _ upd_same (Evl.fresh_back s.sub hp))
    refine ⟨hp2, [(.inr (S l), w)], rfl, by show 1 ≤ 15; decide, ?_⟩
    have g := g1.trans g2
    refine q _ (upd G2 p (.dK (mergeK [] [(.inr (S l), w)]))) _ ⟨(g0.g.trans g.g).trans (Evl.Ex.new n2), fun b o e => ?_, fun b o e => ?_, fun b o e n => ?_⟩ (.dct upd_same (.cons ⟨l, rfl, ok⟩ (i2.up (Evl.Ex.new n2)) .nil))
    · have hb : b ≠ p := ne_of_none e hp
      rw [upd_ne hb]
      exact g.h b o (by rw [upd_ne hb]; exact e)
    · by_cases hb : b = p
      · subst hb
        rw [upd_same] at e ⊢
        exact e
      · rw [upd_ne hb] at e ⊢
        exact g2.s b o e
    · have hb : b ≠ p := ne_of_none e hp
      rw [upd_ne hb]
      exact g.f b o (by rw [upd_ne hb]; exact e) n
end
/-! anything plain, asked for its kind -/
def plainT (d : D) : Bool := (tyD d).isSome
theorem kit_all : (["NoneType", "bool", "int", "str", "list", "tuple", "dict"].all fun t => ["int", "bool", "str", "list", "tuple", "dict"].all fun n => (kitB t n).isSome) = true := by decide +kernel
theorem isi_ok {d : D} {n : String} (h : plainT d = true) (hn : (["int", "bool", "str", "list", "tuple", "dict"].contains n) = true) : (tyD d).bind (fun t => kitB t n) = some (isiD n d) := by
  unfold isiD
  have key : ∀ t ∈ ["NoneType", "bool", "int", "str", "list", "tuple", "dict"], ∃ r, kitB t n = some r := fun t ht => by
    have q := List.all_eq_true.mp kit_all t ht
    have q2 := List.all_eq_true.mp q n (by simpa using hn)
    exact Option.isSome_iff_exists.mp q2
  cases d with
  | non => obtain ⟨r, e⟩ := key "NoneType" (by simp); simp [tyD, e]
  | bl b => obtain ⟨r, e⟩ := key "bool" (by simp); simp [tyD, e]
  | int i => obtain ⟨r, e⟩ := key "int" (by simp); simp [tyD, e]
  | str l => obtain ⟨r, e⟩ := key "str" (by simp); simp [tyD, e]
  | lst l => obtain ⟨r, e⟩ := key "list" (by simp); simp [tyD, e]
  | tup l => obtain ⟨r, e⟩ := key "tuple" (by simp); simp [tyD, e]
  | dct l => obtain ⟨r, e⟩ := key "dict" (by simp); simp [tyD, e]
  | ty n => cases h
  | ins C l => cases h
  | scr l => cases h
theorem isi_no {d : D} {n : String} (h : plainT d = true) (hn : (["int", "bool", "str", "list", "tuple", "dict"].contains n) = true) (hf : isiD n d = false) : (tyD d).bind (fun t => kitB t n) = some false := by rw [isi_ok h hn, hf]
end Sd

namespace Sd
open PySem L2
/-- a loop whose turns all go on alike -/
theorem loop_go {S Y T : Type} {step : S → Y → Ctl S S} {s : S} : ∀ {ys : List Y}, (∀ y ∈ ys, step s y = .go s) → (loop step s ys : Ctl S T) = .go s
  | [], _ => rfl
  | y :: ys, h => by
    show (match step s y with | .go s' => loop step s' ys | .brk s' => .go s' | .ret r => .ret r) = _
    rw [h y List.mem_cons_self]
    exact loop_go fun z hz => h z (List.mem_cons_of_mem _ hz)
end Sd
namespace Sd
open PySem L2
/-- a loop that looks for one and leaves -/
theorem loop_find {Y T : Type} {p : Y → Bool} {r : Res} : ∀ {ys : List Y}, (loop (S := Unit) (T := T) (fun (_ : Unit) (y : Y) => if p y = true then Ctl.up (.ret r) else .go ()) () ys) = if ys.any p = true then .ret r else .go ()
  | [] => rfl
  | y :: ys => by
    rw [List.any_cons]
    unfold loop
    cases h : p y with
    | true =>
      rw [if_pos rfl]
      rfl
    | false =>
      rw [if_neg Bool.false_ne_true, Bool.false_or]
      exact loop_find
theorem rints_any {n : Nat} {p : Int → Bool} : (rints 0 n).any p = true ↔ ∃ i : Nat, i < n ∧ p (i : Int) = true := by
  unfold rints
  rw [List.any_map, List.any_eq_true]
  constructor
  · rintro ⟨i, hi, h⟩
    refine ⟨i, List.mem_range.mp hi, ?_⟩
    simpa using h
  · rintro ⟨i, hi, h⟩
    exact ⟨i, List.mem_range.mpr hi, by simpa using h⟩
/-- two lists of one length told apart, place by place -/
theorem any_ne {α : Type} [DecidableEq α] {d : α} {xs ys : List α} (h : xs.length = ys.length) : (rints 0 ys.length).any (fun i => !decide (ix xs i d = ix ys i d)) = !decide (xs = ys) := by
  by_cases e : xs = ys
  · subst e
    rw [decide_eq_true rfl]
    apply Bool.eq_false_iff.mpr
    intro q
    obtain ⟨i, _, h2⟩ := rints_any.mp q
    simp at h2
  · rw [decide_eq_false e]
    show _ = true
    rw [rints_any]
    apply Classical.byContradiction
    intro hn
    refine e (List.ext_getElem h fun i h1 h2 => ?_)
    apply Classical.byContradiction
    intro hne
    refine hn ⟨i, h2, ?_⟩
    rw [ix_nat, ix_nat, List.getD_eq_getElem?_getD, List.getD_eq_getElem?_getD, List.getElem?_eq_getElem h1, List.getElem?_eq_getElem h2]
    simpa using hne
end Sd

namespace Sd
open PySem PySem.Spec PyProof.Rows L2

/-! ### what may raise -/
abbrev veTail : List Value := [.type "ValueError", .type "Exception", .type "BaseException", .type "object"]
/-- an own class of exceptions without own __init__, beneath ValueError -/
structure ExC (K : PySem.W.Frag) (mg : Str → Option Value) (x : Str) : Prop where
  ex : ∃ C, mg x = some (.ref C) ∧ PySem.W.nsIn K mainGlobals x = some (some (.ref C)) ∧ PySem.W.excIn K C veTail "ValueError.__new__" = true ∧ PySem.W.keepIn K (.ref C) = true ∧
    PySem.W.subIn K (.ref C) (.type "BaseException") = some true ∧ PySem.W.typeIn K (.ref C) = some (.type "type")
theorem PostR.grow {K : PySem.W.Frag} {F G0 G H : Hp} {E : XK} {rt : VK} {r : Res} (g : Grow G0 F G H) (h : PostR K F G0 E rt r) : PostR K H G E rt r := by
  cases r with
  | v x => exact fun v G' H' g' i => h v G' H' (g.trans g') i
  | o o => exact fun p u G' H' g' hp n hn ho => h p u G' H' (g.trans g') hp n (Evl.fresh_back g.h hn) ho
  | x e => exact fun cls d G' H' g' i => h cls d G' H' (g.trans g') i
  | stk => exact h.elim
/-- comes to a value, to one's own thing, or raises -/
def EvRs (K : PySem.W.Frag) (E : L2.St → XK) (Γ : List B) (te : TE) (r : Res) : Prop := ∀ F σ G H, Stt K F Γ σ G H → ∀ Q : VK, PostR K H G (E σ) Q r → te σ H Q
abbrev ERs (X : Cx) (E : L2.St → XK) (Γ : List B) (e : Expr) (r : Res) : Prop := EvRs X.K E Γ (wE X e) r
abbrev EvR (K : PySem.W.Frag) (E : XK) (Γ : List B) (te : TE) (r : Res) : Prop := EvRs K (fun _ => E) Γ te r
abbrev ER (X : Cx) (E : XK) (Γ : List B) (e : Expr) (r : Res) : Prop := EvR X.K E Γ (wE X e) r
def resX {τ : Type} (enc : τ → D) : Except Exn τ → Res
  | .ok x => .v (enc x)
  | .error e => .x e
def resO {τ : Type} (enc : τ → OO) : Except Exn τ → Res
  | .ok x => .o (enc x)
  | .error e => .x e
section
variable {X : Cx} {E : XK} {Γ : List B} {e : Expr} {es : List Expr} {r : Res}
theorem er_of {t : TE} (h : PE X e t) (k : EvR X.K E Γ t r) : ER X E Γ e r := fun F σ G H s Q q => ⟨fun pins sh I => h.run pins sh σ H Q I (k F σ G H s Q q)⟩
theorem ed_ofR {τ : Type} {enc : τ → D} {r : Except Exn τ} {x : τ} (h : ER X E Γ e (resX enc r)) (hx : r = .ok x) : ED X Γ e (enc x) := fun F σ G H s Q q => h F σ G H s Q (by rw [hx]; exact q)
theorem eo_ofR {τ : Type} {enc : τ → OO} {r : Except Exn τ} {x : τ} (h : ER X E Γ e (resO enc r)) (hx : r = .ok x) : EO X Γ e (enc x) := fun F σ G H s Q q => h F σ G H s Q (by rw [hx]; exact q)
theorem er_call {pos p : Pos} {x : Str} {lv : Nat} {A : Type} {enc : A → List D} {pre : A → Prop} {res : A → Res} (a : A) (tk : Takes X (fun cls d _ H => E cls d H)) (hk : KnX X x lv (spF X.K enc pre res)) (hr : Room lv X.A) (hg : Gl X x) (ha : EA X Γ (e :: es) (enc a)) (hp : pre a)
    (hdb : (x == ("__debug__" : Str)) = false := by decide) (he : starEach (e :: es) X.env = (false, eval e X.env) :: starEach es X.env := by exact starEach_ns rfl) (hpl : (backTo pos (starEach es X.env)).any (·.1) = false := by exact plain_ok rfl) : ER X E Γ (.Call (.Name x p) (e :: es) [] pos) (res a) := by
  obtain ⟨f, fd, ps, h1, h2, h3, h4⟩ := hk.ex
  refine er_of (pe_call (E := E) h1 hr hg h2 h3 h4 .nil (passes_call tk fun _ _ _ _ h => h) pa_w hdb he hpl) fun F σ G H s Q q => ha F σ G H s _ fun vs G1 H1 g1 i1 => ?_
  rw [List.append_nil]
  exact ⟨a, G1, g1.s, i1, hp, PostR.grow g1 q⟩
end
section
variable {X : Cx} {E : XK} {Γ : List B} {S T : Type} {Γs : S → List B} {Γb : T → List B} {rest : List Stmt} {pos : Pos} {lv : Nat} {N : List Str} {sc : Scope} {y : Str} {py : Pos} {e : Expr}
theorem b_setR {τ : Type} (i : Nat) (enc : τ → D) {r : Except Exn τ} {k : τ → Ctl S T} (hX : XOk lv N sc X) (hn : N[i]? = some y) (hl : Loc sc y) (he : ER X E Γ e (resX enc r)) (hr : ∀ v, r = .ok v → BK X E (Γ.set i (.d (enc v))) rest Γs Γb (k v)) (hs : swapsWith e (some (.Name y py)) pos.line X.env = pure false := by exact sw_ns rfl) :
    BK X E Γ (.Assign [.Name y py] e pos :: rest) Γs Γb (bndX r k) := fun F G0 σ G H D s gr post =>
  w_cons (ps_set hX.nd (hX.nm hn) (hX.lc hl) pe_w hs (.inl (hX.fn y))) (he F σ G H s _ (by
    cases r with
    | ok x => exact fun v G1 H1 g1 i1 => hr x rfl F G0 _ G1 H1 D ((s.grow g1).set i i1) (gr.trans g1) (PostC.up post g1.g)
    | error x => exact PostR.grow gr (show PostR X.K F G0 E D.rt (.x x) from post)))
theorem b_setRO {τ : Type} (i : Nat) (enc : τ → OO) {r : Except Exn τ} {k : τ → Ctl S T} (hX : XOk lv N sc X) (hn : N[i]? = some y) (hl : Loc sc y) (he : ER X E Γ e (resO enc r)) (hr : ∀ v, r = .ok v → BK X E (Γ.set i (.own (enc v))) rest Γs Γb (k v)) (hs : swapsWith e (some (.Name y py)) pos.line X.env = pure false := by exact sw_ns rfl) :
    BK X E Γ (.Assign [.Name y py] e pos :: rest) Γs Γb (bndX r k) := fun F G0 σ G H D s gr post =>
  w_cons (ps_set hX.nd (hX.nm hn) (hX.lc hl) pe_w hs (.inl (hX.fn y))) (he F σ G H s _ (by
    cases r with
    | ok x => exact fun p u G1 H1 g1 hp n hn ho => hr x rfl F G0 _ G1 H1 D ((s.grow g1).setO i hp n (Evl.fresh_back gr.h hn) ho fun j o' _ e z => s.fresh hn e z) (gr.trans g1) (PostC.up post g1.g)
    | error x => exact PostR.grow gr (show PostR X.K F G0 E D.rt (.x x) from post)))
theorem b_setRT {τ : Type} (enc : τ → D) {r : Except Exn τ} {k : τ → Ctl S T} {tg : Expr} {g : TG} {js : List Nat} (Γ' : τ → List B) (hg : PG X tg g) (htg : ∀ v, TgD X.K g js Γ (enc v) (Γ' v)) (he : ER X E Γ e (resX enc r)) (hr : ∀ v, r = .ok v → BK X E (Γ' v) rest Γs Γb (k v))
    (hs : swapsWithSole [tg] e pos.line X.env = pure false := by exact sws_ns rfl) (hw : swappedStores [tg] e X.env = pure none := by exact sst_ns rfl) (h1 : (assignEach [tg] X.env).map (·.2) = [assign tg X.env] := by rfl) : BK X E Γ (.Assign [tg] e pos :: rest) Γs Γb (bndX r k) := fun F G0 σ G H D s gr post =>
  w_cons (ps_asg pe_w hg hs hw h1) (he F σ G H s _ (by
    cases r with
    | ok x => exact fun v G1 H1 g1 i1 => htg x F σ G1 H1 v (s.grow g1) i1 _ fun ws s' => hr x rfl F G0 _ G1 H1 D s' (gr.trans g1) (PostC.up post g1.g)
    | error x => exact PostR.grow gr (show PostR X.K F G0 E D.rt (.x x) from post)))
theorem b_retR {r : Res} (he : ER X E Γ e r) : BK X E Γ (.Return (some e) pos :: rest) Γs Γb (.ret r) := fun F G0 σ G H D s gr post => w_cons (ps_ret pe_w) (he F σ G H s _ (PostR.grow gr post))
/-- raise X('m') -/
theorem b_raise {x m : Str} {j : Nat} {p p2 cpos : Pos} (hM : XCm X E) (hX : XOk lv N sc X) (hc : ExC X.K X.mg x) (hg : Gl X x) (hdb : (x == ("__debug__" : Str)) = false := by decide) :
    BK X E Γ (.Raise (some (.Call (.Name x p) [.Constant (.str m) j p2] [] cpos)) none pos :: rest) Γs Γb (.ret (.x ⟨x, []⟩)) := fun F G0 σ G H D s gr post => by
  obtain ⟨C, h1, h2, h3, h4, h5, h6⟩ := hc.ex
  refine w_cons (ps_raise hM.calm hM.takes (pmk_own PySem.F.excBase_ValueError h3 h1 h4 (raises_own h5 h6) hg hdb)) ?_
  exact post (.ref C) none G H gr ⟨h2, fun n => absurd rfl n, fun _ => rfl⟩
end

/-! ### data told as one kind -/
section
variable {X : Cx} {Γ : List B} {e : Expr} {x y : D}
theorem ed_cast (h : x = y) (he : ED X Γ e x) : ED X Γ e y := h ▸ he
end
def asI : D → Int
  | .int i => i
  | _ => 0
def asS : D → List Nat
  | .str s => s
  | _ => []
def asB : D → Bool
  | .bl b => b
  | _ => false
def asSs : D → List (List Nat)
  | .tup xs => xs.map asS
  | .lst xs => xs.map asS
  | _ => []

/-! ### int(..), str(..), list(..), tuple(..) -/
section
variable {X : Cx} {Γ : List B} {pos p : Pos} {a b : Expr} {ds : List D}
theorem ed_intB {k : Bool} (hg : Gl X "int") (hm : X.mg "int" = none) (ha : ED X Γ a (.bl k)) (he : starEach [a] X.env = (false, eval a X.env) :: starEach [] X.env := by exact starEach_ns rfl) (hpl : (backTo pos (starEach [] X.env)).any (·.1) = false := by exact plain_ok rfl) : ED X Γ (.Call (.Name "int" p) [a] [] pos) (.int (if k then 1 else 0)) :=
  ed_callTy call_int1 hg hm (by decide +kernel) (ea_cons ha ea_nil he) (fun vs G H ex i Q q => by
    cases i with
    | cons i1 i2 =>
      cases i1
      cases i2
      exact .inr ⟨_, rfl, q _ G H (.refl ex) (.int _)⟩) (by decide) (by decide) he hpl
theorem ed_intI {k : Int} (hg : Gl X "int") (hm : X.mg "int" = none) (ha : ED X Γ a (.int k)) (he : starEach [a] X.env = (false, eval a X.env) :: starEach [] X.env := by exact starEach_ns rfl) (hpl : (backTo pos (starEach [] X.env)).any (·.1) = false := by exact plain_ok rfl) : ED X Γ (.Call (.Name "int" p) [a] [] pos) (.int k) :=
  ed_callTy call_int1 hg hm (by decide +kernel) (ea_cons ha ea_nil he) (fun vs G H ex i Q q => by
    cases i with
    | cons i1 i2 =>
      cases i1
      cases i2
      exact .inl ⟨_, rfl, q _ G H (.refl ex) (.int _)⟩) (by decide) (by decide) he hpl
def strI (i : Int) : List Nat := (Str.ofString (toString i)).cps.toList
theorem S_strI (i : Int) : S (strI i) = Str.ofString (toString i) := by simp [S, strI]
theorem strI_nat (n : Nat) : strI (n : Int) = TL.numL n := TL.tl_num n
theorem strI_neg (n : Nat) : strI (Int.negSucc n) = 45 :: TL.numL (n + 1) := by
  have e : toString (Int.negSucc n) = "-" ++ Nat.repr (n + 1) := rfl
  unfold strI
  rw [e, PySem.Str.ofString_eq_toList]
  show (("-" ++ Nat.repr (n + 1)).toList.map Char.toNat) = _
  rw [String.toList_append, List.map_append, Nat.toList_repr]
  rfl
theorem numL_chr (n : Nat) : chrOk (TL.numL n) = true := by
  unfold chrOk
  rw [List.all_eq_true]
  intro c hc
  have := TL.numL_digits n c hc
  exact decide_eq_true (by omega)
theorem log10 {n : Nat} (h : n.log2 < 1920) : n < 10 ^ 1920 := by
  have h1 : n < 2 ^ (n.log2 + 1) := Nat.lt_log2_self
  have h2 : 2 ^ (n.log2 + 1) ≤ 2 ^ 1920 := Nat.pow_le_pow_right (by decide) (by omega)
  have h3 : (2 : Nat) ^ 1920 ≤ 10 ^ 1920 := Nat.pow_le_pow_left (by decide) 1920
  omega
theorem numL_ok {n : Nat} (h : n.log2 < 1920) : (TL.numL n).length ≤ 1920 := TL.numL_len (by decide) (log10 h)
theorem strI_ok {k : Int} (h : k.natAbs.log2 < 1920) : StrOk (strI k) := by
  cases k with
  | ofNat n =>
    show StrOk (strI (n : Int))
    rw [strI_nat]
    exact ⟨Nat.le_trans (numL_ok h) (by unfold LMax; decide), numL_chr n⟩
  | negSucc n =>
    rw [strI_neg]
    have q := numL_ok (n := n + 1) h
    exact ⟨by rw [List.length_cons]; unfold LMax; omega, chrOk_app (l := [45]) rfl (numL_chr _)⟩
def natOf (s : List Nat) : Int := (NumText.digitsVal s : Nat)
theorem ed_strI {k : Int} (hg : Gl X "str") (hm : X.mg "str" = none) (ha : ED X Γ a (.int k)) (hz : k.natAbs.log2 < 1920) (he : starEach [a] X.env = (false, eval a X.env) :: starEach [] X.env := by exact starEach_ns rfl) (hpl : (backTo pos (starEach [] X.env)).any (·.1) = false := by exact plain_ok rfl) : ED X Γ (.Call (.Name "str" p) [a] [] pos) (.str (strI k)) :=
  ed_callTy call_str_int hg hm (by decide +kernel) (ea_cons ha ea_nil he) (fun vs G H ex i Q q => by
    cases i with
    | cons i1 i2 =>
      cases i1
      cases i2
      refine ⟨_, rfl, hz, ?_⟩
      have h := q (.str (S (strI k))) G H (.refl ex) (.str _ (strI_ok hz))
      rw [S_strI] at h
      exact h) (by decide) (by decide) he hpl
theorem ed_intS {s : List Nat} (hg : Gl X "int") (hm : X.mg "int" = none) (ha : ED X Γ a (.str s)) (hd : NumText.AllDigits s) (h1 : s ≠ []) (h2 : s.length ≤ 640) (he : starEach [a] X.env = (false, eval a X.env) :: starEach [] X.env := by exact starEach_ns rfl) (hpl : (backTo pos (starEach [] X.env)).any (·.1) = false := by exact plain_ok rfl) : ED X Γ (.Call (.Name "int" p) [a] [] pos) (.int (natOf s)) :=
  ed_callTy call_int_str hg hm (by decide +kernel) (ea_cons ha ea_nil he) (fun vs G H ex i Q q => by
    cases i with
    | cons i1 i2 =>
      cases i1
      cases i2
      refine ⟨_, _, rfl, PySem.intText_digits (x := S s) (by simpa [S] using hd) (by simpa [S] using h1) (by rw [S_len]; omega), by rw [S_len]; exact h2, ?_⟩
      have e : (S s).cps.toList = s := by simp [S]
      rw [e]
      exact q _ G H (.refl ex) (.int _)) (by decide) (by decide) he hpl
/-- list(xs), xs a list that may be read -/
theorem eo_listL (hg : Gl X "list") (hm : X.mg "list" = none) (ha : EL X Γ a ds) (he : starEach [a] X.env = (false, eval a X.env) :: starEach [] X.env := by exact starEach_ns rfl) (hpl : (backTo pos (starEach [] X.env)).any (·.1) = false := by exact plain_ok rfl) : EO X Γ (.Call (.Name "list" p) [a] [] pos) (.lst ds) :=
  eo_of (pe_callTy call_list_of hg hm (by decide +kernel) (pa_cons pe_w pa_nil he) (by decide) (by decide) he hpl) fun F σ G H s Q q => ha F σ G H s _ fun p vs G1 H1 g1 h1 i1 =>
    ⟨p, vs, rfl, .inl (.inl (.inl h1)), fun l hl => q l _ G1 _ (g1.trans (Grow.lay g1.s hl)) upd_same (Evl.fresh_back g1.s hl) (Evl.fresh_back g1.h hl) i1⟩
/-- tuple(xs) -/
theorem ed_tupL (hg : Gl X "tuple") (hm : X.mg "tuple" = none) (ha : EL X Γ a ds) (he : starEach [a] X.env = (false, eval a X.env) :: starEach [] X.env := by exact starEach_ns rfl) (hpl : (backTo pos (starEach [] X.env)).any (·.1) = false := by exact plain_ok rfl) : ED X Γ (.Call (.Name "tuple" p) [a] [] pos) (.tup ds) :=
  ed_of (pe_callTy call_tuple_of hg hm (by decide +kernel) (pa_cons pe_w pa_nil he) (by decide) (by decide) he hpl) fun F σ G H s Q q => ha F σ G H s _ fun p vs G1 H1 g1 h1 i1 =>
    ⟨p, vs, rfl, .inl ⟨.inl (.inl h1), fun l hl => q _ _ _ (g1.trans (Grow.new g1.s hl)) (.tup (.inl (.inl upd_same)) (i1.up (Evl.Ex.new (Evl.fresh_back g1.s hl))))⟩⟩
end

/-! ### == of nested data -/
mutual
def pyD : D → PyData
  | .bl b => .bool b
  | .int i => .int i
  | .str l => .str (S l)
  | .lst xs => .list (pyDs xs)
  | .tup xs => .tuple (pyDs xs)
  | _ => .none
def pyDs : List D → List PyData
  | [] => []
  | x :: xs => pyD x :: pyDs xs
end
/-- data of that depth that == goes through -/
def eqk : Nat → D → Bool
  | _, .non => true
  | _, .bl _ => true
  | _, .int _ => true
  | _, .str _ => true
  | n + 1, .lst xs => xs.all (eqk n)
  | n + 1, .tup xs => xs.all (eqk n)
  | _, _ => false
theorem chrOk_S {l : List Nat} (h : chrOk l = true) : PyData.canLay0 (.str (S l)) = true := by
  unfold PyData.canLay0 PyData.strOk
  simpa [S, chrOk] using h
theorem can_pys {K : PySem.W.Frag} {G : Hp} {n : Nat} (ih : ∀ d v, Is K G v d → eqk n d = true → (pyD d).canLay0 = true) : ∀ (xs : List D) (vs : List V), IsAll K G vs xs → xs.all (eqk n) = true → PyData.canLayAll0 (pyDs xs) = true
  | [], _, _, _ => rfl
  | x :: xs, _, h, e => by
    rw [List.all_cons, Bool.and_eq_true] at e
    cases h with
    | cons h1 h2 =>
      show (PyData.canLay0 (pyD x) && PyData.canLayAll0 (pyDs xs)) = true
      rw [ih _ _ h1 e.1, can_pys ih xs _ h2 e.2]
      rfl
theorem can_py {K : PySem.W.Frag} {G : Hp} : ∀ (n : Nat) (d : D) (v : V), Is K G v d → eqk n d = true → (pyD d).canLay0 = true
  | _, .non, _, _, _ => rfl
  | _, .bl _, _, _, _ => rfl
  | _, .int _, _, _, _ => rfl
  | n, .str l, _, h, _ => chrOk_S h.strOk.chr
  | 0, .lst _, _, _, h => nomatch h
  | 0, .tup _, _, _, h => nomatch h
  | n + 1, .lst xs, _, h, e => by
    cases h with
    | lst _ h2 => exact can_pys (fun d v => can_py n d v) xs _ h2 e
  | n + 1, .tup xs, _, h, e => by
    cases h with
    | tup _ h2 => exact can_pys (fun d v => can_py n d v) xs _ h2 e
  | 0, .ty _, _, _, h => nomatch h
  | 0, .dct _, _, _, h => nomatch h
  | 0, .ins _ _, _, _, h => nomatch h
  | 0, .scr _, _, _, h => nomatch h
  | _ + 1, .ty _, _, _, h => nomatch h
  | _ + 1, .dct _, _, _, h => nomatch h
  | _ + 1, .ins _ _, _, _, h => nomatch h
  | _ + 1, .scr _, _, _, h => nomatch h
theorem eqk_pys {n : Nat} (ih : ∀ d, eqk n d = true → (pyD d).depth ≤ n) : ∀ xs : List D, xs.all (eqk n) = true → PyData.depthAll (pyDs xs) ≤ n
  | [], _ => Nat.zero_le _
  | x :: xs, h => by
    rw [List.all_cons, Bool.and_eq_true] at h
    have h1 := ih x h.1
    have h2 := eqk_pys ih xs h.2
    show max (pyD x).depth (PyData.depthAll (pyDs xs)) ≤ n
    omega
theorem eqk_py : ∀ (n : Nat) (d : D), eqk n d = true → (pyD d).depth ≤ n
  | _, .non, _ => Nat.zero_le _
  | _, .bl _, _ => Nat.zero_le _
  | _, .int _, _ => Nat.zero_le _
  | _, .str l, h => Nat.zero_le _
  | 0, .lst _, h => nomatch h
  | 0, .tup _, h => nomatch h
  | n + 1, .lst xs, h => Nat.succ_le_succ (eqk_pys (fun d => eqk_py n d) xs h)
  | n + 1, .tup xs, h => Nat.succ_le_succ (eqk_pys (fun d => eqk_py n d) xs h)
  | 0, .ty _, h => nomatch h
  | 0, .dct _, h => nomatch h
  | 0, .ins _ _, h => nomatch h
  | 0, .scr _, h => nomatch h
  | _ + 1, .ty _, h => nomatch h
  | _ + 1, .dct _, h => nomatch h
  | _ + 1, .ins _ _, h => nomatch h
  | _ + 1, .scr _, h => nomatch h
theorem dps_of {K : PySem.W.Frag} {G H : Hp} {n : Nat} (ih : ∀ d v, Is K G v d → eqk n d = true → Dp K H v (pyD d)) : ∀ (xs : List D) (vs : List V), IsAll K G vs xs → xs.all (eqk n) = true → DpAll K H vs (pyDs xs)
  | [], _, h, _ => by cases h; exact .nil
  | x :: xs, _, h, e => by
    rw [List.all_cons, Bool.and_eq_true] at e
    cases h with
    | cons h1 h2 => exact .cons (ih _ _ h1 e.1) (dps_of ih xs _ h2 e.2)
theorem dp_of {K : PySem.W.Frag} {G H : Hp} (ex : Ex G H) : ∀ (n : Nat) (d : D) (v : V), Is K G v d → eqk n d = true → Dp K H v (pyD d)
  | _, .non, _, h, _ => by cases h; exact .non
  | _, .bl _, _, h, _ => by cases h; exact .bl _
  | _, .int _, _, h, _ => by cases h; exact .int _
  | n, .str l, _, h, _ => by cases h; exact .str _
  | 0, .lst _, _, _, e => nomatch e
  | 0, .tup _, _, _, e => nomatch e
  | n + 1, .lst xs, _, h, e => by
    cases h with
    | lst h1 h2 => exact .lst (.inl (.inl (ex _ _ h1))) (dps_of (dp_of ex n) xs _ h2 e)
  | n + 1, .tup xs, _, h, e => by
    cases h with
    | tup h1 h2 => exact .tup (Evl.ex_t ex h1) (dps_of (dp_of ex n) xs _ h2 e)
  | 0, .ty _, _, _, e => nomatch e
  | 0, .dct _, _, _, e => nomatch e
  | 0, .ins _ _, _, _, e => nomatch e
  | 0, .scr _, _, _, e => nomatch e
  | _ + 1, .ty _, _, _, e => nomatch e
  | _ + 1, .dct _, _, _, e => nomatch e
  | _ + 1, .ins _ _, _, _, e => nomatch e
  | _ + 1, .scr _, _, _, e => nomatch e
theorem eqk_shaped {K : PySem.W.Frag} {G : Hp} {v : V} {n : Nat} {d : D} (i : Is K G v d) (h : eqk n d = true) (hn : n ≤ 64) : SeqAt.shaped (pyD d) = true := by
  have q := eqk_py n d h
  unfold SeqAt.shaped
  rw [can_py n d v i h, Bool.true_and]
  exact decide_eq_true (Nat.le_trans q hn)
def eqD (x y : D) : Bool := PyData.eqv (pyD x) (pyD y)
section
variable {X : Cx} {x y : D}
theorem room64 {lv : Nat} {A : Around} (h : RoomB lv A) : A.units + 64 < cLine := by
  have := h.un
  omega
theorem od_eqD (n : Nat) (hu : X.A.units + 64 < cLine) (hx : eqk n x = true) (hy : eqk n y = true) (hn : n ≤ 64) : OpD X (compareOp .Eq) x y (.bl (eqD x y)) := ⟨_, op_eqD hu, fun v w G H e iv iw Q q =>
  ⟨_, _, dp_of e n _ _ iv hx, dp_of e n _ _ iw hy, eqk_shaped iv hx hn, eqk_shaped iw hy hn, q _ G H (.refl e) (.bl _)⟩⟩
theorem od_neD (n : Nat) (hu : X.A.units + 64 < cLine) (hx : eqk n x = true) (hy : eqk n y = true) (hn : n ≤ 64) : OpD X (compareOp .NotEq) x y (.bl (!eqD x y)) := ⟨_, op_neD hu, fun v w G H e iv iw Q q =>
  ⟨_, _, dp_of e n _ _ iv hx, dp_of e n _ _ iw hy, eqk_shaped iv hx hn, eqk_shaped iw hy hn, q _ G H (.refl e) (.bl _)⟩⟩
/-! .. of data of one kind: as the Lean values are alike -/
/-- a kind of data that == goes through, and tells apart as Lean does -/
structure EqT {τ : Type} [DecidableEq τ] (n : Nat) (enc : τ → D) : Prop where
  k : ∀ a, eqk n (enc a) = true
  eq : ∀ a b, eqD (enc a) (enc b) = decide (a = b)
theorem eqT_int (n : Nat) : EqT n D.int := ⟨fun _ => by cases n <;> rfl, fun a b => by
  show (a == b) = decide (a = b)
  rfl⟩
theorem eqT_bl (n : Nat) : EqT n D.bl := ⟨fun _ => by cases n <;> rfl, fun a b => by
  show (a == b) = decide (a = b)
  cases a <;> cases b <;> rfl⟩
theorem eqT_str (n : Nat) : EqT n D.str := ⟨fun _ => by cases n <;> rfl, fun a b => by
  show (S a == S b) = decide (a = b)
  by_cases h : a = b
  · subst h
    simp
  · rw [decide_eq_false h]
    exact beq_eq_false_iff_ne.mpr fun z => h (S_inj.mp z)⟩
theorem eqT_all {τ : Type} [DecidableEq τ] {n : Nat} {enc : τ → D} (h : EqT n enc) : ∀ a b : List τ, PyData.eqvAll (pyDs (a.map enc)) (pyDs (b.map enc)) = decide (a = b)
  | [], [] => rfl
  | [], _ :: _ => rfl
  | _ :: _, [] => rfl
  | x :: a, y :: b => by
    show (PyData.eqv (pyD (enc x)) (pyD (enc y)) && PyData.eqvAll (pyDs (a.map enc)) (pyDs (b.map enc))) = _
    rw [eqT_all h a b, show PyData.eqv (pyD (enc x)) (pyD (enc y)) = decide (x = y) from h.eq x y]
    by_cases e : x = y
    · subst e
      by_cases f : a = b
      · subst f
        simp
      · simp [f]
    · simp [e]
theorem eqT_lst {τ : Type} [DecidableEq τ] {n : Nat} {enc : τ → D} (h : EqT n enc) : EqT (n + 1) (fun l : List τ => D.lst (l.map enc)) := ⟨fun a => by
  show (a.map enc).all (eqk n) = true
  rw [List.all_map, List.all_eq_true]
  exact fun x _ => h.k x, fun a b => eqT_all h a b⟩
theorem eqT_vt {τ : Type} [DecidableEq τ] {n : Nat} {enc : τ → D} (h : EqT n enc) : EqT (n + 1) (fun l : List τ => D.tup (l.map enc)) := ⟨fun a => by
  show (a.map enc).all (eqk n) = true
  rw [List.all_map, List.all_eq_true]
  exact fun x _ => h.k x, fun a b => eqT_all h a b⟩
theorem eqT_t2 {α β : Type} [DecidableEq α] [DecidableEq β] {n : Nat} {f : α → D} {g : β → D} (h : EqT n f) (k : EqT n g) : EqT (n + 1) (fun z : α × β => D.tup [f z.1, g z.2]) := ⟨fun a => by
  show (eqk n (f a.1) && (eqk n (g a.2) && true)) = true
  rw [h.k, k.k]
  rfl, fun a b => by
  show (PyData.eqv (pyD (f a.1)) (pyD (f b.1)) && (PyData.eqv (pyD (g a.2)) (pyD (g b.2)) && true)) = _
  rw [show PyData.eqv (pyD (f a.1)) (pyD (f b.1)) = _ from h.eq _ _, show PyData.eqv (pyD (g a.2)) (pyD (g b.2)) = _ from k.eq _ _]
  obtain ⟨a1, a2⟩ := a
  obtain ⟨b1, b2⟩ := b
  simp only [Bool.and_true, Prod.mk.injEq, Bool.decide_and]⟩
theorem eqT_t3 {α β γ : Type} [DecidableEq α] [DecidableEq β] [DecidableEq γ] {n : Nat} {f : α → D} {g : β → D} {u : γ → D} (h : EqT n f) (k : EqT n g) (l : EqT n u) : EqT (n + 1) (fun z : α × β × γ => D.tup [f z.1, g z.2.1, u z.2.2]) := ⟨fun a => by
  show (eqk n (f a.1) && (eqk n (g a.2.1) && (eqk n (u a.2.2) && true))) = true
  rw [h.k, k.k, l.k]
  rfl, fun a b => by
  show (PyData.eqv (pyD (f a.1)) (pyD (f b.1)) && (PyData.eqv (pyD (g a.2.1)) (pyD (g b.2.1)) && (PyData.eqv (pyD (u a.2.2)) (pyD (u b.2.2)) && true))) = _
  rw [show PyData.eqv (pyD (f a.1)) (pyD (f b.1)) = _ from h.eq _ _, show PyData.eqv (pyD (g a.2.1)) (pyD (g b.2.1)) = _ from k.eq _ _, show PyData.eqv (pyD (u a.2.2)) (pyD (u b.2.2)) = _ from l.eq _ _]
  obtain ⟨a1, a2, a3⟩ := a
  obtain ⟨b1, b2, b3⟩ := b
  simp only [Bool.and_true, Prod.mk.injEq, Bool.decide_and]⟩
theorem eqT_t4 {α β γ δ : Type} [DecidableEq α] [DecidableEq β] [DecidableEq γ] [DecidableEq δ] {n : Nat} {f : α → D} {g : β → D} {u : γ → D} {v : δ → D} (h : EqT n f) (k : EqT n g) (l : EqT n u) (m : EqT n v) : EqT (n + 1) (fun z : α × β × γ × δ => D.tup [f z.1, g z.2.1, u z.2.2.1, v z.2.2.2]) := ⟨fun a => by
  show (eqk n (f a.1) && (eqk n (g a.2.1) && (eqk n (u a.2.2.1) && (eqk n (v a.2.2.2) && true)))) = true
  rw [h.k, k.k, l.k, m.k]
  rfl, fun a b => by
  show (PyData.eqv (pyD (f a.1)) (pyD (f b.1)) && (PyData.eqv (pyD (g a.2.1)) (pyD (g b.2.1)) && (PyData.eqv (pyD (u a.2.2.1)) (pyD (u b.2.2.1)) && (PyData.eqv (pyD (v a.2.2.2)) (pyD (v b.2.2.2)) && true)))) = _
  rw [show PyData.eqv (pyD (f a.1)) (pyD (f b.1)) = _ from h.eq _ _, show PyData.eqv (pyD (g a.2.1)) (pyD (g b.2.1)) = _ from k.eq _ _, show PyData.eqv (pyD (u a.2.2.1)) (pyD (u b.2.2.1)) = _ from l.eq _ _, show PyData.eqv (pyD (v a.2.2.2)) (pyD (v b.2.2.2)) = _ from m.eq _ _]
  obtain ⟨a1, a2, a3, a4⟩ := a
  obtain ⟨b1, b2, b3, b4⟩ := b
  simp only [Bool.and_true, Prod.mk.injEq, Bool.decide_and]⟩
theorem od_eqT {τ : Type} [DecidableEq τ] {n : Nat} {enc : τ → D} (h : EqT n enc) (hu : X.A.units + 64 < cLine) (a b : τ) (hn : n ≤ 64 := by decide) : OpD X (compareOp .Eq) (enc a) (enc b) (.bl (decide (a = b))) := by
  rw [← h.eq]
  exact od_eqD n hu (h.k a) (h.k b) hn
theorem od_neT {τ : Type} [DecidableEq τ] {n : Nat} {enc : τ → D} (h : EqT n enc) (hu : X.A.units + 64 < cLine) (a b : τ) (hn : n ≤ 64 := by decide) : OpD X (compareOp .NotEq) (enc a) (enc b) (.bl (!decide (a = b))) := by
  rw [← h.eq]
  exact od_neD n hu (h.k a) (h.k b) hn

/-! ### a text some times -/
theorem op_mul_str : OpR X (binaryOp .Mult) (fun x y H Q => ∃ (l : List Nat) (n : Int), x = .str (S l) ∧ y = .int n ∧ 0 ≤ n ∧ n ≤ 1000 ∧ l.length ≤ 10000 ∧ Q (.str (S (List.replicate n.toNat l).flatten)) H) := by
  intro pins s σ H x y v u Q I rx ry h
  obtain ⟨l, n, rfl, rfl, h0, h1, h2, q⟩ := h
  obtain ⟨t, rfl⟩ := rx
  obtain ⟨t', rfl⟩ := ry
  have hlen : (S l).length = l.length := S_len l
  have hm : (S l).length * n.toNat ≤ 10000000 := by
    rw [hlen]
    exact Nat.le_trans (Nat.mul_le_mul h2 (show n.toNat ≤ 1000 by omega)) (by decide)
  have hflat : ∀ (m : Nat) (acc : List Nat), (List.replicate m (S l).cps).foldl (· ++ ·) acc.toArray = (acc ++ (List.replicate m l).flatten).toArray := by
    intro m
    induction m with
    | zero => intro acc; simp
    | succ m ih =>
      intro acc
      rw [List.replicate_succ, List.foldl_cons, List.replicate_succ, List.flatten_cons]
      have e : acc.toArray ++ (S l).cps = (acc ++ l).toArray := by simp [S]
      rw [e, ih, List.append_assoc]
  refine PySem.P.mul_str ?_ ?_ ?_ ?_
  · rw [decide_eq_false (by omega), decide_eq_false (by omega)] <;> rfl
  · intro hn hc
    have hz : 0 < n := by omega
    intro hgt
    have a1 : ((S l).length : Int) ≤ 10000 := by rw [hlen]; omega
    have a2 : (2 ^ 63 - 1 : Int) / 1000 ≤ (2 ^ 63 - 1) / n := by
      apply Int.le_ediv_of_mul_le hz
      have a3 : (2 ^ 63 - 1 : Int) / 1000 * n ≤ (2 ^ 63 - 1 : Int) / 1000 * 1000 := Int.mul_le_mul_of_nonneg_left h1 (by decide)
      omega
    omega
  · intro hn hc
    show decide (_ > sizeLine) = false
    rw [decide_eq_false]
    rw [sizeLine_eq]
    omega
  · by_cases hn : n < 1
    · rw [if_pos hn]
      have hz : n = 0 := by omega
      subst hz
      exact ⟨by decide, .str _, H, I.tok _, ⟨_, rfl⟩, q⟩
    · rw [if_neg hn]
      by_cases hc : (n == 1 || (S l).length == 0) = true
      · rw [if_pos hc]
        have e : (List.replicate n.toNat l).flatten = l := by
          rw [Bool.or_eq_true, beq_iff_eq, beq_iff_eq] at hc
          rcases hc with hc | hc
          · subst hc
            simp
          · rw [hlen] at hc
            have : l = [] := List.eq_nil_of_length_eq_zero hc
            subst this
            induction n.toNat with
            | zero => rfl
            | succ m ih => rw [List.replicate_succ, List.flatten_cons, ih]; rfl
        rw [e] at q
        exact ⟨.str _, H, I, ⟨_, rfl⟩, q⟩
      · rw [if_neg hc]
        have e := hflat n.toNat []
        rw [List.nil_append] at e
        have e' : (⟨(List.replicate n.toNat (S l).cps).foldl (· ++ ·) #[]⟩ : Str) = S (List.replicate n.toNat l).flatten := by
          unfold S
          rw [← e]
        rw [e']
        refine ⟨?_, .str _, H, I.tok _, ⟨_, rfl⟩, q⟩
        rw [S_len, List.length_flatten, List.map_replicate, List.sum_replicate_nat, sizeLine_eq]
        rw [hlen, Nat.mul_comm] at hm
        omega
theorem od_mulS {l : List Nat} {n : Int} (h0 : 0 ≤ n) (h1 : n ≤ 1000) (h2 : l.length ≤ 10000) : OpD X (binaryOp .Mult) (.str l) (.int n) (.str (List.replicate n.toNat l).flatten) := ⟨_, op_mul_str, fun v w G H e iv iw Q q => by
  have a := iv.strOk
  cases iv
  cases iw
  refine ⟨_, _, rfl, rfl, h0, h1, h2, q _ G H (.refl e) (.str _ ⟨?_, chrOk_sub a.chr fun x hx => ?_⟩)⟩
  · rw [List.length_flatten, List.map_replicate, List.sum_replicate_nat]
    exact Nat.le_trans (Nat.mul_le_mul (show n.toNat ≤ 1000 by omega) h2) (by unfold LMax; decide)
  · obtain ⟨m, h3, h4⟩ := List.mem_flatten.mp hx
    rw [List.eq_of_mem_replicate h3] at h4
    exact h4⟩
end
end Sd

namespace Sd
open PySem PySem.Spec PyProof.Rows L2
/-! ### range with a step -/
def rintsS (lo c : Int) (n : Nat) : List Int := (List.range n).map fun (i : Nat) => lo + (i : Int) * c
def rngN (lo hi c : Int) : Nat := (Builtin.Range.rangeSize lo hi c).toNat
theorem rintsS_get {lo c : Int} {n i : Nat} (h : i < n) : (rintsS lo c n)[i]? = some (lo + (i : Int) * c) := by
  unfold rintsS
  rw [List.getElem?_map, List.getElem?_range h]
  rfl
theorem rintsS_len (lo c : Int) (n : Nat) : (rintsS lo c n).length = n := by
  unfold rintsS
  rw [List.length_map, List.length_range]
theorem rintsS_mem {lo c x : Int} {n : Nat} (h : x ∈ rintsS lo c n) : ∃ i : Nat, i < n ∧ x = lo + i * c := by
  unfold rintsS at h
  obtain ⟨i, hi, rfl⟩ := List.mem_map.mp h
  exact ⟨i, List.mem_range.mp hi, rfl⟩
theorem rngN_up {lo hi c : Int} (hc : 0 < c) : (Builtin.Range.rangeSize lo hi c) = (rngN lo hi c : Int) := by
  unfold rngN Builtin.Range.rangeSize
  rw [if_pos hc]
  split
  · rename_i h
    have : 0 ≤ (hi - lo - 1) / c := Int.ediv_nonneg (by omega) (by omega)
    omega
  · rfl
theorem small_two {n : Int} (h0 : 0 ≤ n) (h1 : n < 2 ^ 62) : Builtin.Range.small 0 n 2 = true := by
  unfold Builtin.Range.small Builtin.Range.rangeSize
  simp only [Builtin.Range.rangeFitsLong, Bool.and_eq_true, Bool.or_eq_true, decide_eq_true_eq, beq_iff_eq, show (2 : Int) > 0 by decide, if_true]
  split <;> omega
theorem rngN_two {n : Nat} : rngN 0 (n : Int) 2 = (n + 1) / 2 := by
  unfold rngN Builtin.Range.rangeSize
  rw [if_pos (by decide)]
  split <;> omega
theorem rints_two {n : Nat} {x : Int} (h : x ∈ rintsS 0 2 (rngN 0 (n : Int) 2)) : 0 ≤ x ∧ x < n ∧ x % 2 = 0 := by
  obtain ⟨i, hi, rfl⟩ := rintsS_mem h
  rw [rngN_two] at hi
  omega
section
variable {X : Cx} {Γ : List B} {tg a b c : Expr} {pos p : Pos}
theorem it_range3 {i j k : Int} (hg : Gl X "range") (hm : X.mg "range" = none) (ha : ED X Γ a (.int i)) (hb : ED X Γ b (.int j)) (hc : ED X Γ c (.int k)) (h1 : 0 < k ∧ k < 1073741824) (h2 : Builtin.Range.small i j k = true)
    (hs : starEach [a, b, c] X.env = (false, eval a X.env) :: starEach [b, c] X.env := by exact starEach_ns rfl) (hs2 : starEach [b, c] X.env = (false, eval b X.env) :: starEach [c] X.env := by exact starEach_ns rfl) (hs3 : starEach [c] X.env = (false, eval c X.env) :: starEach [] X.env := by exact starEach_ns rfl) (hpl : (backTo pos (starEach [b, c] X.env)).any (·.1) = false := by exact plain_ok rfl) :
    IT X Γ tg (.Call (.Name "range" p) [a, b, c] [] pos) ((rintsS i k (rngN i j k)).map D.int) :=
  ⟨_, pi_range3 hg hm pa_w hs hpl, fun F σ G H s R q => (ea_cons ha (ea_cons hb (ea_cons hc ea_nil hs3) hs2) hs) F σ G H s _ fun vs G1 H1 g1 i1 => by
    cases i1 with
    | cons i1 i2 =>
      cases i2 with
      | cons i2 i3 =>
        cases i3 with
        | cons i3 i4 =>
          cases i1
          cases i2
          cases i3
          cases i4
          refine ⟨i, j, k, rngN i j k, rfl, ⟨by omega, by omega, h2, rngN_up h1.1⟩, ?_⟩
          have hl : ((rintsS i k (rngN i j k)).map D.int).length = rngN i j k := by rw [List.length_map, rintsS_len]
          refine q _ (fun _ => True) (fun t H v H' => H' = H ∧ t < rngN i j k ∧ v = .int (i + (t : Nat) * k)) G1 H1 g1 (by rw [hl]; exact walk_rangeC.mono (fun _ h => h) fun t H x H' hi _ y => ⟨y.1, hi, y.2⟩) (fun _ _ _ _ => trivial) fun t G2 H2 v H3 e1 e2 y => ?_
          obtain ⟨rfl, hi, rfl⟩ := y
          exact ⟨G2, .int (i + (t : Int) * k), by rw [List.getElem?_map, rintsS_get hi]; rfl, .refl e2, .int _⟩⟩
end
/-! ### tuples of any length -/
section
variable {X : Cx} {Γ : List B} {pos p apos : Pos} {a b : Expr} {τ : Type} {enc : τ → D} {xs : List τ}
theorem ed_tupM (hg : Gl X "tuple") (hm : X.mg "tuple" = none) (ha : EL X Γ a (xs.map enc)) (he : starEach [a] X.env = (false, eval a X.env) :: starEach [] X.env := by exact starEach_ns rfl) (hpl : (backTo pos (starEach [] X.env)).any (·.1) = false := by exact plain_ok rfl) : ED X Γ (.Call (.Name "tuple" p) [a] [] pos) (.tup (xs.map enc)) := ed_tupL hg hm ha he hpl
theorem ed_lenTM (hg : Gl X "len") (hm : X.mg "len" = none) (ha : ED X Γ a (.tup (xs.map enc))) (he : starEach [a] X.env = (false, eval a X.env) :: starEach [] X.env := by exact starEach_ns rfl) (hpl : (backTo pos (starEach [] X.env)).any (·.1) = false := by exact plain_ok rfl) : ED X Γ (.Call (.Name "len" p) [a] [] pos) (.int xs.length) := by
  have h := ed_lenT (p := p) (pos := pos) hg hm ha he hpl
  rw [List.length_map] at h
  exact h
theorem ed_joinT {l : List Nat} {ls : List (List Nat)} (ha : ED X Γ a (.str l)) (hb : ED X Γ b (.tup (ls.map D.str))) (hz : (ls.map (·.length)).sum + ls.length * l.length ≤ LMax)
    (hbase : attributeBase a "join" X.env (eval a X.env) = eval a X.env := by exact ab_ns rfl) (hline : (apos.endLine == pos.line) = true := by rfl)
    (hfew : ((backTo pos (starEach (b :: []) X.env)).all (fun x => !x.1) && (backToKw pos (keywordEach [] X.env)).all (fun x => x.1.isSome) && decide ((b :: ([] : List Expr)).length + ([] : List Keyword).length + (if ([] : List Keyword).isEmpty then 0 else 1) < 30)) = true := by exact few_ok rfl)
    (hs : starEach (b :: []) X.env = (false, eval b X.env) :: starEach [] X.env := by exact starEach_ns rfl) (hplain : (backTo pos (starEach [] X.env)).any (·.1) = false := by exact plain_ok rfl) :
    ED X Γ (.Call (.Attribute a "join" apos) [b] [] pos) (.str (joinS l ls)) :=
  ed_of (pe_bm PySem.F.plainAttrs_str PySem.F.slot_str_join PySem.F.type_str_join mt_join pe_w (pa_cons pe_w pa_nil hs) hbase hfew hline hs hplain) fun F σ G H s Q q => ha F σ G H s _ fun v G1 H1 g1 i1 => by
    have a := i1.strOk
    cases i1
    refine ⟨rfl, hb F σ G1 H1 (s.grow g1) _ fun w G2 H2 g2 i2 => ?_⟩
    cases i2 with
    | @tup p vs _ h2 i2 =>
      have b := i2.strOk
      have e := i2.strs
      subst e
      refine ⟨_, p, ls.map S, rfl, rfl, .inr ?_, ?_, ?_⟩
      · have h3 := Evl.ex_t g2.s h2
        rw [List.map_map]
        exact h3
      · rw [List.map_map, List.length_map, S_len]
        have : (ls.map ((fun x : Str => x.length) ∘ S)) = ls.map (·.length) := List.map_congr_left fun x _ => S_len x
        rw [this]
        exact Nat.le_trans hz (by unfold LMax; decide)
      · exact q _ G2 H2 (g1.trans g2) (.str _ (strOk_join a b hz))
end
end Sd

namespace Sd
open PySem PySem.Spec PyProof.Rows L2
/-! ### instances -/
def putD (f : Str) (v : D) : List (Str × D) → List (Str × D)
  | [] => [(f, v)]
  | (g, x) :: r => if g = f then (g, v) :: r else (g, x) :: putD f v r
section
variable {K : PySem.W.Frag} {G : Hp}
theorem IsFs.put {f : Str} {v : V} {d : D} (hv : Is K G v d) : ∀ {xs : List (Str × V)} {ds : List (Str × D)}, IsFs K G xs ds → IsFs K G (putF f v xs) (putD f d ds)
  | _, _, .nil => .cons hv .nil
  | (g, x) :: xs, (_, y) :: ds, .cons h t => by
    unfold putF putD
    by_cases q : g = f
    · rw [if_pos q, if_pos q]
      exact .cons hv t
    · rw [if_neg q, if_neg q]
      exact .cons h (IsFs.put hv t)
theorem IsFs.len : ∀ {xs : List (Str × V)} {ds : List (Str × D)}, IsFs K G xs ds → xs.length = ds.length
  | _, _, .nil => rfl
  | _, _, .cons _ t => congrArg (· + 1) t.len
theorem IsFs.get {f : Str} {d : D} : ∀ {xs : List (Str × V)} {ds : List (Str × D)}, IsFs K G xs ds → ds.lookup f = some d → ∃ v, xs.lookup f = some v ∧ Is K G v d
  | _, _, .nil, e => nomatch e
  | (g, x) :: xs, (_, y) :: ds, .cons h t, e => by
    unfold List.lookup at e ⊢
    cases q : f == g with
    | true =>
      rw [q] at e
      cases e
      exact ⟨x, rfl, h⟩
    | false =>
      rw [q] at e
      exact t.get e
theorem IsFs.no {f : Str} : ∀ {xs : List (Str × V)} {ds : List (Str × D)}, IsFs K G xs ds → ds.lookup f = none → xs.lookup f = none
  | _, _, .nil, _ => rfl
  | (g, x) :: xs, (_, y) :: ds, .cons h t, e => by
    unfold List.lookup at e ⊢
    cases q : f == g with
    | true =>
      rw [q] at e
      cases e
    | false =>
      rw [q] at e
      exact t.no e
end
def dl (H : Hp) (x : Addr) : Hp := fun b => if b = x then none else H b
theorem dl_ne {H : Hp} {x b : Addr} (h : b ≠ x) : dl H x b = H b := if_neg h
theorem dl_self {H : Hp} {x : Addr} : dl H x x = none := if_pos rfl
/-- a class by its name -/
structure ClsA (K : PySem.W.Frag) (n : Str) (C : Addr) : Prop where
  nm : PySem.W.nsIn K mainGlobals n = some (some (.ref C))
  cl : Cls K C
theorem ClsA.eq {K : PySem.W.Frag} {n : Str} {C C' : Addr} (h : ClsA K n C) (e : PySem.W.nsIn K mainGlobals n = some (some (.ref C'))) : C' = C := by
  rw [h.nm] at e
  cases e
  rfl
/-- the class has no attribute of that name -/
structure FldA (K : PySem.W.Frag) (n f : Str) : Prop where
  ex : ∃ C, ClsA K n C ∧ NoAttr K C f
section
variable {X : Cx} {Γ : List B} {e : Expr} {n f : Str} {ds : List (Str × D)} {d : D} {pos : Pos}
/-- e.f -/
theorem ed_fld (he : ED X Γ e (.ins n ds)) (hf : FldA X.K n f) (hl : ds.lookup f = some d) (hb : attributeBase e f X.env (eval e X.env) = eval e X.env := by exact ab_ns rfl) : ED X Γ (.Attribute e f pos) d :=
  ed_of (pe_fld pe_w hb) fun F σ G H s Q q => he F σ G H s _ fun v G1 H1 g1 i1 => by
    obtain ⟨C, hc, hn⟩ := hf.ex
    cases i1 with
    | @ins a C' dx _ xs _ h0 h1 h2 =>
      have e := hc.eq h0
      subst e
      obtain ⟨w, k1, k2⟩ := h2.get hl
      exact ⟨a, C', dx, xs, w, rfl, g1.s _ _ h1, hc.cl, hn, k1, q w G1 H1 g1 k2⟩
end

/-! ### __init__: self.f = e, in a row -/
def BI (X : Cx) (x dx C : Addr) (Γ : List B) (sts : List Stmt) (fs fs' : List (Str × D)) : Prop :=
  ∀ F σ G H (D : Ends) xs, Stt X.K F Γ σ G H → σ[0]? = some (some (.ref x)) → H x = some (.ins C dx xs) → G x = none → IsFs X.K G xs fs →
    (∀ G' H' xs', Grow G (dl H x) G' (dl H' x) → H' x = some (.ins C dx xs') → G' x = none → IsFs X.K G' xs' fs' → D.nx σ H') → wS X sts D σ H
section
variable {X : Cx} {E : XK} {x dx C : Addr} {Γ : List B} {rest : List Stmt} {fs fs' : List (Str × D)} {d : D} {e : Expr} {pos py apos : Pos} {lv : Nat} {N : List Str} {sc : Scope} {y f : Str}
theorem grow_dl {G H : Hp} (s : Ex G H) (g : G x = none) : Grow G (dl H x) G (dl H x) := Grow.refl fun b o e => by
  rw [dl_ne (ne_of_none e g)]
  exact s b o e
theorem bi_nil : BI X x dx C Γ [] fs fs := fun F σ G H D xs s h0 hx gx hi k => w_nil (k G H xs (grow_dl s.sub gx) hx gx hi)
theorem bi_fld (hX : XOk lv N sc X) (hn : N[0]? = some y) (hl : Vis sc y) (hc : Cls X.K C) (hno : NoAttr X.K C f) (he : ED X Γ e d) (hz : fs.length < 1000) (hr : BI X x dx C Γ rest (putD f d fs) fs')
    (hs : swapsWith e (some (.Attribute (.Name y py) f apos)) pos.line X.env = pure false := by exact sw_ns rfl) (hd : (y == ("__debug__" : Str)) = false := by decide) (hcd : (y == ("__classdict__" : Str)) = false := by decide) :
    BI X x dx C Γ (.Assign [.Attribute (.Name y py) f apos] e pos :: rest) fs fs' := fun F σ G H D xs s h0 hx gx hi k => by
  refine w_cons (ps_fld (pe_var (hX.nm hn) (hX.vs hl) hd hcd) pe_w hs) (he F σ G H s _ fun v G1 H1 g1 i1 => ⟨_, h0, ?_⟩)
  have hx1 := g1.h _ _ hx
  have gx1 : G1 x = none := g1.f x _ hx gx
  refine ⟨x, C, dx, xs, rfl, hx1, hc, hno, by rw [hi.len]; exact hz, ?_⟩
  have hi1 : IsFs X.K G1 xs fs := IsFs.mono g1.g fs xs hi
  have s1 := s.grow g1
  have nx : ∀ {p : Addr} {vs : List V}, H1 p = some (.lst vs) → p ≠ x := fun {p vs} h z => by
    rw [z, hx1] at h
    cases h
  have s2 : Stt X.K (dl F x) Γ σ G1 H1 := ⟨s1.len, s1.sub, s1.dat, fun i o h => let ⟨p, u, k1, k2, k3, k4, k5⟩ := s1.own i o h; ⟨p, u, k1, k2, k3, by
      by_cases hp : p = x
      · rw [hp, dl_self]
      · rw [dl_ne hp]
        exact k4, k5⟩, s1.sep, fun i xs h => let ⟨p, vs, k1, k2, k3, k4⟩ := s1.bor i xs h; ⟨p, vs, k1, k2, by rw [dl_ne (nx k2)]; exact k3, k4⟩, s1.exc⟩
  have gsub : Ex G1 (upd H1 x (.ins C dx (putF f v xs))) := fun b o e => by
    rw [upd_ne (ne_of_none e gx1)]
    exact g1.s b o e
  by_cases hown : ∃ (i : Nat) (o : OO), Γ[i]? = some (B.own o) ∧ σ[i]? = some (some (V.ref x))
  · obtain ⟨i, o, k1, k2⟩ := hown
    obtain ⟨p, u, k3, k4, k5, k6, k7⟩ := s.own i o k1
    rw [k2] at k3
    cases k3
    rw [hx] at k4
    cases k4
    exact absurd k7 (by cases o <;> exact id)
  · refine hr (dl F x) σ G1 _ D _ ⟨s2.len, gsub, s2.dat, fun i o h => ?_, s2.sep, fun i xs h => let ⟨p, vs, k1, k2, k3, k4⟩ := s2.bor i xs h; ⟨p, vs, k1, by rw [upd_ne (nx k2)]; exact k2, k3, k4⟩, s2.exc⟩ h0 upd_same gx1 (IsFs.put i1 hi1) fun G' H' xs' g' hx' gx' hi' => k G' H' xs' ?_ hx' gx' hi'
    · obtain ⟨p, u, k1, k2, k3, k4, k5⟩ := s2.own i o h
      exact ⟨p, u, k1, by rw [upd_ne (fun z => hown ⟨i, o, h, by rw [z] at k1; exact k1⟩)]; exact k2, k3, k4, k5⟩
    · have e1 : Grow G (dl H x) G1 (dl H1 x) := by
        refine ⟨g1.g, fun b o e => ?_, fun b o e => ?_, fun b o e m => ?_⟩
        · by_cases hb : b = x
          · subst hb
            rw [dl_self] at e
            cases e
          · rw [dl_ne hb] at e ⊢
            exact g1.h b o e
        · rw [dl_ne (ne_of_none e gx1)]
          exact g1.s b o e
        · by_cases hb : b = x
          · subst hb
            exact gx1
          · rw [dl_ne hb] at e
            exact g1.f b o e m
      have e2 : dl (upd H1 x (.ins C dx (putF f v xs))) x = dl H1 x := by
        funext b
        by_cases hb : b = x
        · subst hb
          rw [dl_self, dl_self]
        · rw [dl_ne hb, dl_ne hb, upd_ne hb]
      rw [e2] at g'
      exact e1.trans g'
end
def spI (K : PySem.W.Frag) (n : Str) {A : Type} (enc : A → List D) (pre : A → Prop) (flds : A → List (Str × D)) : Sp := fun vs H Q E => ∃ (x dx C : Addr) (ws : List V) (a : A) (G : Hp), vs = .ref x :: ws ∧ ClsA K n C ∧ H x = some (.ins C dx []) ∧ G x = none ∧ Ex G H ∧ IsAll K G ws (enc a) ∧ pre a ∧
  ∀ G' H' xs, Grow G (dl H x) G' (dl H' x) → H' x = some (.ins C dx xs) → G' x = none → IsFs K G' xs (flds a) → Q .non H'
theorem Stt.cons {K : PySem.W.Frag} {F : Hp} {Γ : List B} {σ : L2.St} {G H : Hp} (s : Stt K F Γ σ G H) (y : Option V) : Stt K F (B.un :: Γ) (y :: σ) G H := by
  refine ⟨by simp [s.len], s.sub, fun i x e => ?_, fun i o e => ?_, fun i j p o o' e1 e2 e3 e4 => ?_, fun i xs e => ?_, fun i xa xd xf e => ?_⟩
  · cases i with
    | zero => cases e
    | succ i => exact s.dat i x (by simpa using e)
  · cases i with
    | zero => cases e
    | succ i => exact s.own i o (by simpa using e)
  · cases i with
    | zero => cases e1
    | succ i =>
      cases j with
      | zero => cases e2
      | succ j => exact congrArg (· + 1) (s.sep i j p o o' (by simpa using e1) (by simpa using e2) (by simpa using e3) (by simpa using e4))
  · cases i with
    | zero => cases e
    | succ i => exact s.bor i xs (by simpa using e)
  · cases i with
    | zero => cases e
    | succ i => exact s.exc i xa xd xf (by simpa using e)
section
variable {P : Program} {w : World} {K : PySem.W.Frag} {mg : Str → Option Value} {base : Heap} {x qual n : Str} {st : Stmt} {f : Addr} {fd : FuncData} {N ps : List Str} {lv : Nat} {A : Type} {enc : A → List D} {pre : A → Prop} {flds : A → List (Str × D)}
theorem init_ok (F : Fun K x qual st f fd) {nm : Str} (S : FnScope (nm :: N) ps (defScope st)) (hlen : ∀ a, (enc a).length + 1 = ps.length)
    (hb : ∀ a, pre a → ∀ (X : Cx) (E : XK), X.prog = P → X.w = w → X.K = K → X.mg = mg → X.base = base → XOk lv (nm :: N) (defScope st) X → XCm X E → ∀ x dx C, ClsA K n C →
      BI X x dx C (B.un :: ((enc a).map B.d ++ List.replicate (N.length - (enc a).length) B.un)) (defBody st) [] (flds a)) : FnOk P w K mg base (L2.CX P w) (lv + 1) f fd ps (spI K n enc pre flds) := by
  refine F.okX S (fun vs H Q E h => ?_) (fun cdv Ar outer s H vs Q E hr h => ?_)
  · obtain ⟨x, dx, C, ws, a, G, rfl, _, _, _, _, h2, _⟩ := h
    rw [List.length_cons, h2.len, hlen]
  · obtain ⟨x, dx, C, ws, a, G, rfl, hC, hx, gx, h1, h2, h3, h4⟩ := h
    generalize hX : cxOf (L2.CX P w) P w K mg base (nm :: N) qual (defScope st) f cdv Ar outer s H E = X
    have ok : XOk lv (nm :: N) (defScope st) X := by
      subst hX
      exact ⟨⟨hr.dp, hr.un⟩, fun _ => rfl, rfl, rfl, S.nd, S.kind, rfl, rfl⟩
    have cm : XCm X E := by
      subst hX
      exact ⟨rfl, hr.hd, passes_of rfl, takes_of rfl rfl rfl rfl⟩
    have b := hb a h3 X E (by subst hX; rfl) (by subst hX; rfl) (by subst hX; rfl) (by subst hX; rfl) (by subst hX; rfl) ok cm x dx C hC
    have hK : X.K = K := by subst hX; rfl
    refine ⟨wS X (defBody st), pss_w, ?_⟩
    have e : L2.start (nm :: N) (V.ref x :: ws) = some (V.ref x) :: L2.start N ws := by
      unfold L2.start
      simp
    rw [e]
    refine b H _ G H _ [] ?_ rfl hx gx ?_ fun G' H' xs g hx' gx' hi => ?_
    · rw [hK]
      exact (stt_start h2 h1).cons _
    · rw [hK]
      exact .nil
    · rw [hK] at hi
      exact h4 G' H' xs g hx' gx' hi
end
/-- a class that is made by its __init__ -/
structure Mkr (P : Program) (w : World) (K : PySem.W.Frag) (mg : Str → Option Value) (base : Heap) (n : Str) (lv : Nat) (sp : Sp) : Prop where
  ex : ∃ (C f : Addr) (fd : FuncData) (ps : List Str), mg n = some (.ref C) ∧ ClsA K n C ∧ Mk K C f ∧ FnOk P w K mg base (L2.CX P w) lv f fd ps sp ∧ Binds K fd ps []
abbrev MkX (X : Cx) (n : Str) (lv : Nat) (sp : Sp) : Prop := Mkr X.prog X.w X.K X.mg X.base n lv sp
theorem FldA.no {K : PySem.W.Frag} {n f : Str} {C : Addr} (h : FldA K n f) (hC : ClsA K n C) : NoAttr K C f := by
  obtain ⟨C', h1, h2⟩ := h.ex
  have e := hC.eq h1.nm
  subst e
  exact h2
/-- a method -/
structure Mth (P : Program) (w : World) (K : PySem.W.Frag) (mg : Str → Option Value) (base : Heap) (n m : Str) (lv : Nat) (sp : Sp) : Prop where
  ex : ∃ (C f : Addr) (fd : FuncData) (ps : List Str), ClsA K n C ∧ Meth K C m f ∧ FnOk P w K mg base (L2.CX P w) lv f fd ps sp ∧ Binds K fd ps []
abbrev MethX (X : Cx) (n m : Str) (lv : Nat) (sp : Sp) : Prop := Mth X.prog X.w X.K X.mg X.base n m lv sp
section
variable {X : Cx} {Γ : List B} {pos p apos : Pos} {n m : Str} {lv : Nat} {A : Type} {enc : A → List D} {pre : A → Prop} {flds : A → List (Str × D)} {res : A → Res} {e o : Expr} {es : List Expr} {ds : List (Str × D)} {args : List D}
theorem ed_make (a : A) (hk : MkX X n lv (spI X.K n enc pre flds)) (hr : Room (lv + 1) X.A) (hg : Gl X n) (ha : EA X Γ (e :: es) (enc a)) (hp : pre a)
    (hdb : (n == ("__debug__" : Str)) = false := by decide) (he : starEach (e :: es) X.env = (false, eval e X.env) :: starEach es X.env := by exact starEach_ns rfl) (hpl : (backTo pos (starEach es X.env)).any (·.1) = false := by exact plain_ok rfl) : ED X Γ (.Call (.Name n p) (e :: es) [] pos) (.ins n (flds a)) := by
  obtain ⟨C, f, fd, ps, h1, hC, hM, hF, hB⟩ := hk.ex
  refine ed_of (pe_make (E := E0) hM hF hr hg h1 hB .nil passL pa_w hdb he hpl) fun F σ G H s Q q => ha F σ G H s _ fun vs G1 H1 g1 i1 x dx hx hdx hne => ?_
  rw [List.append_nil]
  have gx : G1 x = none := Evl.fresh_back g1.s hx
  have gdx : G1 dx = none := Evl.fresh_back g1.s hdx
  have ex1 : Ex G1 (upd (upd H1 dx (.own x)) x (.ins C dx [])) := fun b o eb => by
    rw [upd_ne (ne_of_none eb gx), upd_ne (ne_of_none eb gdx)]
    exact g1.s b o eb
  refine ⟨x, dx, C, vs, a, G1, rfl, hC, upd_same, gx, ex1, i1, hp, fun G' H' xs g hx' gx' hi => ⟨rfl, ?_⟩⟩
  have hH : Ex H1 H' := fun b o eb => by
    have hb : b ≠ x := ne_of_none eb hx
    have hb2 : b ≠ dx := ne_of_none eb hdx
    have z := g.h b o (by rw [dl_ne hb, upd_ne hb, upd_ne hb2]; exact eb)
    rw [dl_ne hb] at z
    exact z
  have gs : Ex G' H' := fun b o eb => by
    have hb : b ≠ x := ne_of_none eb gx'
    have z := g.s b o eb
    rw [dl_ne hb] at z
    exact z
  have g2 : Grow G1 H1 G' H' := ⟨g.g, hH, gs, fun b o eb mb => by
    have hb : b ≠ x := ne_of_none eb hx
    have hb2 : b ≠ dx := ne_of_none eb hdx
    exact g.f b o (by rw [dl_ne hb, upd_ne hb, upd_ne hb2]; exact eb) mb⟩
  exact q (.ref x) (upd G' x (.ins C dx xs)) H' (g1.trans (g2.frz hx hx' gx')) (.ins hC.nm upd_same (IsFs.mono (Evl.Ex.new gx') _ _ hi))
theorem mth_ns {o : Expr} {env : Env} (h : ncl o = true) : True := trivial
end
end Sd

namespace Sd
open PySem PySem.Spec PyProof.Rows L2
/-! ### methods of instances -/
section
variable {X : Cx} {Γ : List B} {pos p apos : Pos} {n m : Str} {lv : Nat} {A : Type} {enc : A → List D} {pre : A → Prop} {res : A → Res} {e o : Expr} {es : List Expr} {ds : List (Str × D)} {args : List D} {pl : Sem Bool}
theorem ev_meth0 {E : XK} {C : Addr} {sp : Sp} {z : Res} {E' : XK} (hC : ClsA X.K n C) (he : ED X Γ o (.ins n ds)) (hl : ds.lookup m = none)
    (hs : ∀ G H v, Ex G H → Is X.K G v (.ins n ds) → ∀ Q, PostR X.K H G E Q z → sp [v] H Q E) : EvR X.K E Γ (tMeth C m sp [] E (wE X o) tNil) z := fun F σ G H s Q q => he F σ G H s _ fun v G1 H1 g1 i1 => by
  have i0 := i1
  cases i1 with
  | @ins a C' dx _ xs _ h0 h1 h2 =>
    have e := hC.eq h0
    subst e
    exact ⟨a, dx, xs, rfl, g1.s _ _ h1, h2.no hl, hs G1 H1 _ g1.s i0 Q (PostR.grow g1 q)⟩
/-- o.m() -/
theorem er_meth0 {E : XK} (a : A) (tk : Takes X (fun cls d _ H => E cls d H)) (hk : MethX X n m lv (spF X.K enc pre res)) (hr : Room lv X.A) (he : ED X Γ o (.ins n ds)) (henc : enc a = [.ins n ds]) (hp : pre a) (hl : ds.lookup m = none)
    (ht : eval (.Call (.Attribute o m apos) [] [] pos) X.env = (do
      let ov ← eval o X.env
      standAt apos.atName
      let (f, first) ← holding [ov] (getMethod ov m pl)
      callWith pos f first (backTo pos (starEach [] X.env)) (backToKw pos (keywordEach [] X.env))) := by rfl) : ER X E Γ (.Call (.Attribute o m apos) [] [] pos) (res a) := by
  obtain ⟨C, f, fd, ps, hC, hM, hF, hB⟩ := hk.ex
  exact er_of (pe_meth0 (E := E) pe_w hC.cl hM hF hr hB .nil (passes_call tk fun _ _ _ _ h => h) ht) (ev_meth0 (E' := E) hC he hl fun G H v ex i Q q => ⟨a, G, ex, by rw [henc]; exact .cons i .nil, hp, q⟩)
theorem ed_meth0 (a : A) {z : D} (hk : MethX X n m lv (spF X.K enc pre res)) (hr : Room lv X.A) (he : ED X Γ o (.ins n ds)) (henc : enc a = [.ins n ds]) (hp : pre a) (hv : res a = .v z) (hl : ds.lookup m = none)
    (ht : eval (.Call (.Attribute o m apos) [] [] pos) X.env = (do
      let ov ← eval o X.env
      standAt apos.atName
      let (f, first) ← holding [ov] (getMethod ov m pl)
      callWith pos f first (backTo pos (starEach [] X.env)) (backToKw pos (keywordEach [] X.env))) := by rfl) : ED X Γ (.Call (.Attribute o m apos) [] [] pos) z := by
  obtain ⟨C, f, fd, ps, hC, hM, hF, hB⟩ := hk.ex
  exact ed_of (pe_meth0 (E := E0) pe_w hC.cl hM hF hr hB .nil passL ht) fun F σ G H s Q q => (ev_meth0 (E := E0) (E' := E0) (z := .v z) hC he hl fun G H v ex i Q q => ⟨a, G, ex, by rw [henc]; exact .cons i .nil, hp, by rw [hv]; exact q⟩) F σ G H s Q q
theorem eo_meth0 (a : A) {z : OO} (hk : MethX X n m lv (spF X.K enc pre res)) (hr : Room lv X.A) (he : ED X Γ o (.ins n ds)) (henc : enc a = [.ins n ds]) (hp : pre a) (hv : res a = .o z) (hl : ds.lookup m = none)
    (ht : eval (.Call (.Attribute o m apos) [] [] pos) X.env = (do
      let ov ← eval o X.env
      standAt apos.atName
      let (f, first) ← holding [ov] (getMethod ov m pl)
      callWith pos f first (backTo pos (starEach [] X.env)) (backToKw pos (keywordEach [] X.env))) := by rfl) : EO X Γ (.Call (.Attribute o m apos) [] [] pos) z := by
  obtain ⟨C, f, fd, ps, hC, hM, hF, hB⟩ := hk.ex
  exact eo_of (pe_meth0 (E := E0) pe_w hC.cl hM hF hr hB .nil passL ht) fun F σ G H s Q q => (ev_meth0 (E := E0) (E' := E0) (z := .o z) hC he hl fun G H v ex i Q q => ⟨a, G, ex, by rw [henc]; exact .cons i .nil, hp, by rw [hv]; exact q⟩) F σ G H s Q q
end

/-! ### an instance of a class without __init__ -/
structure Mk0 (K : PySem.W.Frag) (C : Addr) : Prop where
  makes : PySem.W.makesIn K C = true
  init : PySem.W.findIn K (.ref C) "__init__" = some (some (.builtin "object.__init__"))
  kp : PySem.W.keepIn K (.ref C) = true
def tBare (C : Addr) : TE := fun σ H Q => ∀ x dx, H x = none → H dx = none → dx ≠ x → Q (.ref x) (upd (upd H dx (.own x)) x (.ins C dx []))
section
variable {X : Cx} {C : Addr} {n : Str} {p pos : Pos} {Γ : List B}
theorem pe_bare (M : Mk0 X.K C) (hg : Gl X n) (hm : X.mg n = some (.ref C)) (hdb : (n == ("__debug__" : Str)) = false := by decide) : PE X (.Call (.Name n p) [] [] pos) (tBare C) := by
  refine ⟨fun pins s σ H Q I h => ?_⟩
  refine wpAny_Call_Name_kw (ld_glob I hg hm ?_ hdb)
  refine PySem.W.callWith_K0 I.kIn M.kp ?_
  have hq := h (s.heap.objs.size + 1) s.heap.objs.size (I.hok.fresh (Nat.le_succ _)) (I.hok.fresh (Nat.le_refl _)) (Nat.ne_of_lt (Nat.lt_succ_self _))
  have I2 := Inv.made (C := C) I
  refine wpAny_call (make_map0 I.kIn M.makes M.init (fun self => PySem.W.Looks.of_pure (PySem.W.oi_bind self)) ?_)
  obtain ⟨hh, g, d, t, os⟩ := s
  have Y := PySem.W.makes_of (M := model X.prog X.w) I.kIn M.makes
  have e2 : ((hh.push PySem.W.emptyDict).push (PySem.W.instObj C hh.objs.size)).get? (hh.objs.size + 1) = some (PySem.W.instObj C hh.objs.size) := by
    have := Heap.get?_push_size (hh.push PySem.W.emptyDict) (o := PySem.W.instObj C hh.objs.size) rfl
    rwa [Heap.size_push] at this
  have t1 : PySem.W.Looks (model X.prog X.w) ((hh.push PySem.W.emptyDict).push (PySem.W.instObj C hh.objs.size)) (typeOf (.ref (hh.objs.size + 1))) (.ref C) := (PySem.W.Looks.ld e2).andThen .now
  have t2 : PySem.W.Looks (model X.prog X.w) ((hh.push PySem.W.emptyDict).push (PySem.W.instObj C hh.objs.size)) (isInstance (.ref (hh.objs.size + 1)) (.type "object")) true := t1.andThen (Y.top.keeps fun b o e => Heap.get?_push_of_some _ (Heap.get?_push_of_some _ e))
  refine codeAny_call_builtin PySem.W.oi_plain PySem.W.entry_oi (@PySem.W.check_slot (model X.prog X.w) _ _ _ "object.__init__" "object" "__init__" (.ref (hh.objs.size + 1)) [] [] _ PySem.W.oi_kind PySem.W.oi_split t2 (PySem.W.oi_args (.ref (hh.objs.size + 1))) ?_)
  rw [PySem.W.oi_run]
  exact wpAny_pure (And.intro rfl ⟨V.ref (hh.objs.size + 1), _, I2, rfl, hq⟩)
theorem ed_bare (hC : ClsA X.K n C) (M : Mk0 X.K C) (hg : Gl X n) (hm : X.mg n = some (.ref C)) (hdb : (n == ("__debug__" : Str)) = false := by decide) : ED X Γ (.Call (.Name n p) [] [] pos) (.ins n []) :=
  ed_of (pe_bare M hg hm hdb) fun F σ G H s Q q x dx hx hdx hne => by
    have gx : G x = none := Evl.fresh_back s.sub hx
    have g1 : Grow G H G (upd H dx (.own x)) := Grow.lay s.sub hdx
    have g2 : Grow G H (upd G x (.ins C dx [])) (upd (upd H dx (.own x)) x (.ins C dx [])) := g1.trans (Grow.new g1.s (by rw [upd_ne (Ne.symm hne)]; exact hx))
    exact q _ _ _ g2 (.ins hC.nm upd_same .nil)
end

/-! ### isinstance with own classes -/
/-- what isinstance asks of an instance's class -/
structure InsT (K : PySem.W.Frag) (C : Addr) : Prop where
  ha : PySem.W.findIn K (.ref C) "__class__" = some (some (.builtin "object.__class__"))
  hn : PySem.W.specialIn K (.builtin "object.__class__") "__get__" = some (some (.builtin "getset_descriptor.__get__"))
  ht : PySem.W.takesIn K (.builtin "object.__class__") = some true
  hm : PySem.W.mroIn K C (.type "object") = some true
theorem kit_own {K : PySem.W.Frag} {t : Value} {C : Addr} {cd : ClassData} {b : Bool} (h1 : PySem.W.clsIn K C = some cd) (h2 : PySem.W.typeIn K (.ref C) = some (.type "type")) (h3 : PySem.W.subIn K t (.ref C) = some b) (hb : (t == .ref C) = true → b = true) : PySem.W.kitOne K t (.ref C) = some b := by
  unfold PySem.W.kitOne PySem.W.kitCls
  cases q : (t == Value.ref C) with
  | true =>
    rw [if_pos rfl, hb q]
  | false =>
    rw [if_neg Bool.false_ne_true]
    show (if ((PySem.W.clsIn K C).isSome && PySem.W.typeIn K (.ref C) == some (.type "type")) = true then PySem.W.subIn K t (.ref C) else none) = some b
    rw [h1, h2]
    exact h3
theorem kit_bty {K : PySem.W.Frag} {C : Addr} {T : String} {b : Bool} (h1 : PySem.W.kitMeta T = true) (h3 : PySem.W.subIn K (.ref C) (.type T) = some b) : PySem.W.kitOne K (.ref C) (.type T) = some b := by
  unfold PySem.W.kitOne PySem.W.kitCls
  have q : (Value.ref C == Value.type T) = false := by rfl
  rw [if_neg (by rw [q]; exact Bool.false_ne_true)]
  show (if PySem.W.kitMeta T = true then _ else _) = _
  rw [if_pos h1]
  exact h3
section
variable {X : Cx} {Γ : List B} {pos p p2 : Pos} {a b : Expr} {n c : Str} {ds : List (Str × D)} {x : D} {C D' : Addr} {r : Bool}
/-- isinstance(an instance, an own class) -/
theorem ed_isiC (hg : Gl X "isinstance") (hm : X.mg "isinstance" = none) (ha : ED X Γ a (.ins n ds)) (hC : ClsA X.K n C) (hT : InsT X.K C) (hgc : Gl X c) (hD : X.mg c = some (.ref D')) (hk : PySem.W.kitOne X.K (.ref C) (.ref D') = some r)
    (hdb : (c == ("__debug__" : Str)) = false := by decide) (he : starEach [a, .Name c p2] X.env = (false, eval a X.env) :: starEach [.Name c p2] X.env := by exact starEach_ns rfl) (he2 : starEach [.Name c p2] X.env = (false, eval (.Name c p2) X.env) :: starEach [] X.env := by exact starEach_ns rfl)
    (hpl : (backTo pos (starEach [.Name c p2] X.env)).any (·.1) = false := by exact plain_ok rfl) : ED X Γ (.Call (.Name "isinstance" p) [a, .Name c p2] [] pos) (.bl r) :=
  ed_of (pe_callB call_isi hg hm (by decide +kernel) (pa_cons pe_w (pa_cons (pe_glob (v := .ref D') hgc hD rfl hdb) pa_nil he2) he) (by decide) (by decide) he hpl) fun F σ G H s Q q => ha F σ G H s _ fun v G1 H1 g1 i1 => by
    cases i1 with
    | @ins y C' dx _ xs _ h0 h1 h2 =>
      have e := hC.eq h0
      subst e
      exact ⟨_, _, _, _, r, rfl, .own D', .base (.ins (g1.s _ _ h1) hC.cl hT.ha hT.hn hT.ht hT.hm), hk, q _ G1 H1 g1 (.bl r)⟩
/-- isinstance(data, an own class) -/
theorem ed_isiN {t : String} (hg : Gl X "isinstance") (hm : X.mg "isinstance" = none) (ha : ED X Γ a x) (ht : tyD x = some t) (hgc : Gl X c) (hD : X.mg c = some (.ref D')) (hk : PySem.W.kitOne X.K (.type t) (.ref D') = some r)
    (hdb : (c == ("__debug__" : Str)) = false := by decide) (he : starEach [a, .Name c p2] X.env = (false, eval a X.env) :: starEach [.Name c p2] X.env := by exact starEach_ns rfl) (he2 : starEach [.Name c p2] X.env = (false, eval (.Name c p2) X.env) :: starEach [] X.env := by exact starEach_ns rfl)
    (hpl : (backTo pos (starEach [.Name c p2] X.env)).any (·.1) = false := by exact plain_ok rfl) : ED X Γ (.Call (.Name "isinstance" p) [a, .Name c p2] [] pos) (.bl r) :=
  ed_of (pe_callB call_isi hg hm (by decide +kernel) (pa_cons pe_w (pa_cons (pe_glob (v := .ref D') hgc hD rfl hdb) pa_nil he2) he) (by decide) (by decide) he hpl) fun F σ G H s Q q => ha F σ G H s _ fun v G1 H1 g1 i1 => 
    ⟨_, _, _, _, r, rfl, .own D', tyx g1.s i1 ht, hk, q _ G1 H1 g1 (.bl r)⟩
/-- isinstance(an instance, a built-in type) -/
theorem ed_isiB {T : String} (hg : Gl X "isinstance") (hm : X.mg "isinstance" = none) (ha : ED X Γ a (.ins n ds)) (hb : ED X Γ b (.ty T)) (hC : ClsA X.K n C) (hT : InsT X.K C) (hk : PySem.W.kitOne X.K (.ref C) (.type T) = some r)
    (he : starEach [a, b] X.env = (false, eval a X.env) :: starEach [b] X.env := by exact starEach_ns rfl) (he2 : starEach [b] X.env = (false, eval b X.env) :: starEach [] X.env := by exact starEach_ns rfl)
    (hpl : (backTo pos (starEach [b] X.env)).any (·.1) = false := by exact plain_ok rfl) : ED X Γ (.Call (.Name "isinstance" p) [a, b] [] pos) (.bl r) :=
  ed_callB call_isi hg hm (by decide +kernel) (ea_cons ha (ea_cons hb ea_nil he2) he) (fun vs G H ex i Q q => by
    cases i with
    | cons i1 i2 =>
      cases i2 with
      | cons i2 i3 =>
        cases i2
        cases i3
        cases i1 with
        | @ins y C' dx _ xs _ h0 h1 h2 =>
          have e := hC.eq h0
          subst e
          exact ⟨_, _, _, _, r, rfl, .ty T, .base (.ins (ex _ _ h1) hC.cl hT.ha hT.hn hT.ht hT.hm), hk, q _ G H (.refl ex) (.bl r)⟩) (by decide) (by decide) he hpl
end
/-- the statements of a class -/
def clsBody : Stmt → List Stmt
  | .ClassDef _ _ _ b .. => b
  | _ => []
def clsAt (s : Stmt) (j : Nat) : Stmt := (clsBody s).getD j (.Pass ⟨0, 0, 0, 0⟩)
end Sd

namespace Sd
open PySem PySem.Spec PyProof.Rows L2
/-! ### a text in a list or tuple of texts -/
theorem inV_strs (x : List Nat) : ∀ ls : List (List Nat), inV (.str (S x)) (ls.map fun l => V.str (S l)) = decide (x ∈ ls)
  | [] => rfl
  | l :: ls => by
    have ih := inV_strs x ls
    unfold inV at ih ⊢
    rw [List.map_cons, List.any_cons, ih]
    by_cases h : l = x
    · subst h
      simp [eqV]
    · have h1 : ¬ S l = S x := fun z => h (S_inj.mp z)
      have h2 : ¬ x = l := fun z => h z.symm
      simp [eqV, h1, h2]
theorem inV_ints (x : Int) : ∀ ls : List Int, inV (.int x) (ls.map V.int) = decide (x ∈ ls)
  | [] => rfl
  | l :: ls => by
    have ih := inV_ints x ls
    unfold inV at ih ⊢
    rw [List.map_cons, List.any_cons, ih]
    by_cases h : l = x
    · subst h
      simp [eqV]
    · have h2 : ¬ x = l := fun z => h z.symm
      simp [eqV, h, h2]
theorem inV_bls (x : Bool) : ∀ ls : List Bool, inV (.bl x) (ls.map V.bl) = decide (x ∈ ls)
  | [] => rfl
  | l :: ls => by
    have ih := inV_bls x ls
    unfold inV at ih ⊢
    rw [List.map_cons, List.any_cons, ih]
    cases l <;> cases x <;> simp [eqV]
theorem flat_ints (ls : List Int) : (ls.map V.int).all flatV = true := by
  rw [List.all_map, List.all_eq_true]
  intro _ _
  rfl
theorem flat_bls (ls : List Bool) : (ls.map V.bl).all flatV = true := by
  rw [List.all_map, List.all_eq_true]
  intro _ _
  rfl
theorem flat_strs (ls : List (List Nat)) : (ls.map fun l => V.str (S l)).all flatV = true := by
  rw [List.all_map, List.all_eq_true]
  intro _ _
  rfl
section
variable {X : Cx}
theorem od_inT (x : List Nat) (ls : List (List Nat)) : OpD X (compareOp .In) (.str x) (.tup (ls.map D.str)) (.bl (decide (x ∈ ls))) := ⟨_, op_in_seq, fun v w G H e iv iw Q q => by
  cases iv
  cases iw with
  | tup h1 h2 =>
    have z := h2.strs
    subst z
    exact ⟨_, _, rfl, .inr (Evl.ex_t e h1), rfl, flat_strs ls, by rw [inV_strs]; exact q _ G H (.refl e) (.bl _)⟩⟩
theorem od_notInT (x : List Nat) (ls : List (List Nat)) : OpD X (compareOp .NotIn) (.str x) (.tup (ls.map D.str)) (.bl (!decide (x ∈ ls))) := ⟨_, op_notIn_seq, fun v w G H e iv iw Q q => by
  cases iv
  cases iw with
  | tup h1 h2 =>
    have z := h2.strs
    subst z
    exact ⟨_, _, rfl, .inr (Evl.ex_t e h1), rfl, flat_strs ls, by rw [inV_strs]; exact q _ G H (.refl e) (.bl _)⟩⟩
theorem od_inLs (x : List Nat) (ls : List (List Nat)) : OpD X (compareOp .In) (.str x) (.lst (ls.map D.str)) (.bl (decide (x ∈ ls))) := ⟨_, op_in_seq, fun v w G H e iv iw Q q => by
  cases iv
  cases iw with
  | lst h1 h2 =>
    have z := h2.strs
    subst z
    exact ⟨_, _, rfl, .inl (.inl (.inl (e _ _ h1))), rfl, flat_strs ls, by rw [inV_strs]; exact q _ G H (.refl e) (.bl _)⟩⟩
theorem od_notInLs (x : List Nat) (ls : List (List Nat)) : OpD X (compareOp .NotIn) (.str x) (.lst (ls.map D.str)) (.bl (!decide (x ∈ ls))) := ⟨_, op_notIn_seq, fun v w G H e iv iw Q q => by
  cases iv
  cases iw with
  | lst h1 h2 =>
    have z := h2.strs
    subst z
    exact ⟨_, _, rfl, .inl (.inl (.inl (e _ _ h1))), rfl, flat_strs ls, by rw [inV_strs]; exact q _ G H (.refl e) (.bl _)⟩⟩
theorem od_inLI (x : Int) (ls : List Int) : OpD X (compareOp .In) (D.int x) (.lst (ls.map D.int)) (.bl (decide (x ∈ ls))) := ⟨_, op_in_seq, fun v w G H e iv iw Q q => by
  cases iv
  cases iw with
  | lst h1 h2 =>
    have z := h2.ints
    subst z
    exact ⟨_, _, rfl, .inl (.inl (.inl (e _ _ h1))), rfl, flat_ints ls, by rw [inV_ints]; exact q _ G H (.refl e) (.bl _)⟩⟩
theorem od_notInLI (x : Int) (ls : List Int) : OpD X (compareOp .NotIn) (D.int x) (.lst (ls.map D.int)) (.bl (!decide (x ∈ ls))) := ⟨_, op_notIn_seq, fun v w G H e iv iw Q q => by
  cases iv
  cases iw with
  | lst h1 h2 =>
    have z := h2.ints
    subst z
    exact ⟨_, _, rfl, .inl (.inl (.inl (e _ _ h1))), rfl, flat_ints ls, by rw [inV_ints]; exact q _ G H (.refl e) (.bl _)⟩⟩
theorem od_inLB (x : Bool) (ls : List Bool) : OpD X (compareOp .In) (D.bl x) (.lst (ls.map D.bl)) (.bl (decide (x ∈ ls))) := ⟨_, op_in_seq, fun v w G H e iv iw Q q => by
  cases iv
  cases iw with
  | lst h1 h2 =>
    have z := h2.bls
    subst z
    exact ⟨_, _, rfl, .inl (.inl (.inl (e _ _ h1))), rfl, flat_bls ls, by rw [inV_bls]; exact q _ G H (.refl e) (.bl _)⟩⟩
theorem od_notInLB (x : Bool) (ls : List Bool) : OpD X (compareOp .NotIn) (D.bl x) (.lst (ls.map D.bl)) (.bl (!decide (x ∈ ls))) := ⟨_, op_notIn_seq, fun v w G H e iv iw Q q => by
  cases iv
  cases iw with
  | lst h1 h2 =>
    have z := h2.bls
    subst z
    exact ⟨_, _, rfl, .inl (.inl (.inl (e _ _ h1))), rfl, flat_bls ls, by rw [inV_bls]; exact q _ G H (.refl e) (.bl _)⟩⟩
end
def BM (k : Nat) : Int := 2 ^ k
theorem od_andK {X : Cx} (k : Nat) (i : Int) : OpD X (binaryOp .BitAnd) (.int i) (.int ((2 : Int) ^ k - 1)) (.int (i % BM k)) := od_andM i _ k rfl
/-! ### facts of classes, told together -/
structure IsA (K : PySem.W.Frag) (mg : Str → Option Value) (n c : Str) (b : Bool) : Prop where
  ex : ∃ C D', ClsA K n C ∧ InsT K C ∧ mg c = some (.ref D') ∧ PySem.W.kitOne K (.ref C) (.ref D') = some b
structure Bare (K : PySem.W.Frag) (mg : Str → Option Value) (n : Str) : Prop where
  ex : ∃ C, ClsA K n C ∧ Mk0 K C ∧ mg n = some (.ref C)
section
variable {X : Cx} {Γ : List B} {pos p p2 : Pos} {a : Expr} {n c : Str} {ds : List (Str × D)} {r : Bool}
theorem ed_isA (hg : Gl X "isinstance") (hm : X.mg "isinstance" = none) (ha : ED X Γ a (.ins n ds)) (hgc : Gl X c) (hk : IsA X.K X.mg n c r)
    (hdb : (c == ("__debug__" : Str)) = false := by decide) (he : starEach [a, .Name c p2] X.env = (false, eval a X.env) :: starEach [.Name c p2] X.env := by exact starEach_ns rfl) : ED X Γ (.Call (.Name "isinstance" p) [a, .Name c p2] [] pos) (.bl r) := by
  obtain ⟨C, D', h1, h2, h3, h4⟩ := hk.ex
  exact ed_isiC hg hm ha h1 h2 hgc h3 h4 hdb he
theorem ed_bareX (hk : Bare X.K X.mg n) (hg : Gl X n) (hdb : (n == ("__debug__" : Str)) = false := by decide) : ED X Γ (.Call (.Name n p) [] [] pos) (.ins n []) := by
  obtain ⟨C, h1, h2, h3⟩ := hk.ex
  exact ed_bare h1 h2 hg h3 hdb
end
/-! ### xs.clear(), (..).append(e) -/
section
variable {X : Cx} {E : XK} {Γ : List B} {S T : Type} {Γs : S → List B} {Γb : T → List B} {rest : List Stmt} {pos : Pos} {lv : Nat} {N : List Str} {sc : Scope} {y : Str} {py : Pos} {e o : Expr} {apos cpos : Pos}
theorem b_clear {τ : Type} (i : Nat) (enc : τ → D) {xs : List τ} {k : Ctl S T} (hX : XOk lv N sc X) (hn : N[i]? = some y) (hl : Vis sc y) (h : Γ[i]? = some (B.own (.lst (xs.map enc)))) (hz : xs.length ≤ sizeLine)
    (hr : BK X E (Γ.set i (.own (.lst (([] : List τ).map enc)))) rest Γs Γb k)
    (hs : swapsWith (.Call (.Attribute (.Name y py) "clear" apos) [] [] cpos) none pos.line X.env = pure false := by exact sw_ns rfl)
    (hbase : attributeBase (.Name y py) "clear" X.env (eval (.Name y py) X.env) = eval (.Name y py) X.env := by exact ab_ns rfl) (hline : (apos.endLine == cpos.line) = true := by rfl) (hd : (y == ("__debug__" : Str)) = false := by decide) (hcd : (y == ("__classdict__" : Str)) = false := by decide) :
    BK X E Γ (.Expr (.Call (.Attribute (.Name y py) "clear" apos) [] [] cpos) pos :: rest) Γs Γb k := fun F G0 σ G H D s gr post => by
  obtain ⟨p, u, h1, h2, h3, h4, h5⟩ := s.own i _ h
  obtain ⟨vs, rfl, iv⟩ := h5.lst
  refine w_cons (ps_expr (pe_bm0 PySem.F.plainAttrs_list PySem.F.slot_list_clear PySem.F.type_list_clear mt_clear (pe_var (hX.nm hn) (hX.vs hl) hd hcd) hbase hline) hs) ?_
  refine ⟨_, h1, .inl ⟨rfl, vs, .inl (.inl h2)⟩, ?_⟩
  have s2 := s.mut (u := .lst []) (o' := .lst (([] : List τ).map enc)) h h1 (show IsAll _ _ _ _ from .nil)
  refine ⟨p, vs, rfl, rfl, h2, ?_⟩
  refine hr F G0 σ G _ D s2 ⟨gr.g, fun b o eo => ?_, s2.sub, gr.f⟩ post
  rw [upd_ne (ne_of_none eo h4)]
  exact gr.h b o eo
/-- o.append(e), o a new list -/
theorem b_appX {ds : List D} {x : D} {k : Ctl S T} (hX : XOk lv N sc X) (ho : EO X Γ o (.lst ds)) (he : ED X Γ e x) (hz : ds.length < sizeLine) (hr : BK X E Γ rest Γs Γb k)
    (hbase : attributeBase o "append" X.env (eval o X.env) = eval o X.env) (hs : swapsWith (.Call (.Attribute o "append" apos) [e] [] cpos) none pos.line X.env = pure false := by exact sw_ns rfl) (hline : (apos.endLine == cpos.line) = true := by rfl)
    (hfew : ((backTo cpos (starEach (e :: []) X.env)).all (fun x => !x.1) && (backToKw cpos (keywordEach [] X.env)).all (fun x => x.1.isSome) && decide ((e :: ([] : List Expr)).length + ([] : List Keyword).length + (if ([] : List Keyword).isEmpty then 0 else 1) < 30)) = true := by exact few_ok rfl)
    (hst : starEach (e :: []) X.env = (false, eval e X.env) :: starEach [] X.env := by exact starEach_ns rfl) (hplain : (backTo cpos (starEach [] X.env)).any (·.1) = false := by exact plain_ok rfl) :
    BK X E Γ (.Expr (.Call (.Attribute o "append" apos) [e] [] cpos) pos :: rest) Γs Γb k := fun F G0 σ G H D s gr post => by
  refine w_cons (ps_expr (pe_bm PySem.F.plainAttrs_list PySem.F.slot_list_append PySem.F.type_list_append mt_append pe_w (pa_cons pe_w pa_nil hst) hbase hfew hline hst hplain) hs) ?_
  refine ho F σ G H s _ fun p u G1 H1 g1 hp n hn hi => ?_
  obtain ⟨vs, rfl, iv⟩ := OwnIs.lst hi
  refine ⟨.inl ⟨rfl, vs, .inl (.inl hp)⟩, he F σ G1 H1 (s.grow g1) _ fun v G2 H2 g2 i2 => ⟨p, vs, v, rfl, rfl, g2.h _ _ hp, by rw [iv.len]; exact hz, ?_⟩⟩
  have g := g1.trans g2
  have n2 : G2 p = none := g2.f p _ hp n
  have g3 : Grow G H G2 (upd H2 p (.lst (vs ++ [v]))) := ⟨g.g, fun b o eo => by rw [upd_ne (ne_of_none eo hn)]; exact g.h b o eo, fun b o eo => by rw [upd_ne (ne_of_none eo n2)]; exact g.s b o eo, g.f⟩
  exact hr F G0 σ G2 _ D (s.grow g3) (gr.trans g3) (post.up g3.g)
end
end Sd

namespace Sd
open PySem PySem.Spec PyProof.Rows L2
/-! ### arguments that are lists of the caller's own, read only -/
inductive AK where
  | d (x : D) | l (xs : List D)
inductive IsAs (K : PySem.W.Frag) (G H : Hp) : List V → List AK → Prop
  | nil : IsAs K G H [] []
  | d {v : V} {x : D} {vs : List V} {as : List AK} : Is K G v x → IsAs K G H vs as → IsAs K G H (v :: vs) (.d x :: as)
  | l {p : Addr} {us vs : List V} {xs : List D} {as : List AK} : H p = some (.lst us) → IsAll K G us xs → IsAs K G H vs as → IsAs K G H (.ref p :: vs) (.l xs :: as)
theorem IsAs.len {K : PySem.W.Frag} {G H : Hp} : ∀ {vs : List V} {as : List AK}, IsAs K G H vs as → vs.length = as.length
  | _, _, .nil => rfl
  | _, _, .d _ t => congrArg (· + 1) t.len
  | _, _, .l _ _ t => congrArg (· + 1) t.len
def EvA2 (K : PySem.W.Frag) (Γ : List B) (ta : TA) (as : List AK) : Prop :=
  ∀ F σ G H, Stt K F Γ σ G H → ∀ Q : List V → Hp → Prop, (∀ vs G' H', Grow G H G' H' → IsAs K G' H' vs as → Q vs H') → ta σ H Q
abbrev EA2 (X : Cx) (Γ : List B) (es : List Expr) (as : List AK) : Prop := EvA2 X.K Γ (wA X es) as
section
variable {X : Cx} {Γ : List B} {e : Expr} {es : List Expr} {x : D} {xs : List D} {as : List AK}
theorem ea2_of {t : TA} (h : PA X es t) (k : EvA2 X.K Γ t as) : EA2 X Γ es as := fun F σ G H s Q q => ⟨fun pos pins sh I => h.run pos pins sh σ H Q I (k F σ G H s Q q)⟩
theorem ea2_nil : EA2 X Γ [] [] := ea2_of pa_nil fun F σ G H s Q q => q [] G H (.refl s.sub) .nil
theorem ea2_d (he : ED X Γ e x) (hs : EA2 X Γ es as) (hst : starEach (e :: es) X.env = (false, eval e X.env) :: starEach es X.env := by exact starEach_ns rfl) : EA2 X Γ (e :: es) (.d x :: as) :=
  ea2_of (pa_cons pe_w pa_w hst) fun F σ G H s Q q => he F σ G H s _ fun v G1 H1 g1 i1 => hs F σ G1 H1 (s.grow g1) _ fun vs G2 H2 g2 i2 => q (v :: vs) G2 H2 (g1.trans g2) (.d (i1.up g2.g) i2)
theorem ea2_l (he : EL X Γ e xs) (hs : EA2 X Γ es as) (hst : starEach (e :: es) X.env = (false, eval e X.env) :: starEach es X.env := by exact starEach_ns rfl) : EA2 X Γ (e :: es) (.l xs :: as) :=
  ea2_of (pa_cons pe_w pa_w hst) fun F σ G H s Q q => he F σ G H s _ fun p us G1 H1 g1 h1 i1 => hs F σ G1 H1 (s.grow g1) _ fun vs G2 H2 g2 i2 => q (.ref p :: vs) G2 H2 (g1.trans g2) (.l (g2.h _ _ h1) (i1.up g2.g) i2)
end
def bOf : AK → B
  | .d x => .d x
  | .l xs => .bor xs
theorem stt_start2 {K : PySem.W.Frag} {G H : Hp} (ex : Ex G H) : ∀ {vs : List V} {as : List AK} (n : Nat), IsAs K G H vs as → Stt K H (as.map bOf ++ List.replicate n B.un) (vs.map some ++ List.replicate n none) G H := by
  intro vs as n h
  have get : ∀ {vs : List V} {as : List AK}, IsAs K G H vs as → ∀ {i : Nat} {b : B}, (as.map bOf ++ List.replicate n B.un)[i]? = some b → b ≠ .un →
      (∃ x v, b = .d x ∧ (vs.map some ++ List.replicate n none)[i]? = some (some v) ∧ Is K G v x) ∨ (∃ xs p us, b = .bor xs ∧ (vs.map some ++ List.replicate n none)[i]? = some (some (.ref p)) ∧ H p = some (.lst us) ∧ IsAll K G us xs) := by
    intro vs as h
    induction h with
    | nil =>
      intro i b e nb
      simp only [List.map_nil, List.nil_append, List.getElem?_replicate] at e
      split at e
      · exact absurd (Option.some.inj e).symm nb
      · cases e
    | @d v x vs as h1 h2 ih =>
      intro i b e nb
      cases i with
      | zero =>
        have e' : b = .d x := by simpa [bOf] using e.symm
        exact .inl ⟨x, v, e', rfl, h1⟩
      | succ i => exact ih (by simpa using e) nb
    | @l p us vs xs as h1 h2 h3 ih =>
      intro i b e nb
      cases i with
      | zero =>
        have e' : b = .bor xs := by simpa [bOf] using e.symm
        exact .inr ⟨xs, p, us, e', rfl, h1, h2⟩
      | succ i => exact ih (by simpa using e) nb
  refine ⟨by simp [h.len], ex, fun i x e => ?_, fun i o e => ?_, fun i j p o o' e _ _ _ => ?_, fun i xs e => ?_, fun i xa xd xf e => ?_⟩
  · rcases get h e (by simp) with ⟨y, v, e1, e2, e3⟩ | ⟨ys, p, us, e1, _⟩
    · cases e1
      exact ⟨v, e2, e3⟩
    · cases e1
  · rcases get h e (by simp) with ⟨y, v, e1, _⟩ | ⟨ys, p, us, e1, _⟩ <;> cases e1
  · rcases get h e (by simp) with ⟨y, v, e1, _⟩ | ⟨ys, p, us, e1, _⟩ <;> cases e1
  · rcases get h e (by simp) with ⟨y, v, e1, _⟩ | ⟨ys, p, us, e1, e2, e3, e4⟩
    · cases e1
    · cases e1
      exact ⟨p, us, e2, e3, e3, e4⟩
  · rcases get h e (by simp) with ⟨y, v, e1, _⟩ | ⟨ys, p, us, e1, _⟩ <;> cases e1
theorem stt_startN {K : PySem.W.Frag} {G H : Hp} {N : List Str} {vs : List V} {as : List AK} (h : IsAs K G H vs as) (ex : Ex G H) : Stt K H (as.map bOf ++ List.replicate (N.length - as.length) B.un) (L2.start N vs) G H := by
  have q := stt_start2 ex (N.length - as.length) h
  unfold L2.start
  rw [h.len]
  exact q
def spG (K : PySem.W.Frag) {A : Type} (enc : A → List AK) (pre : A → Prop) (res : A → Res) : Sp := fun vs H Q E => ∃ (a : A) (G : Hp), Ex G H ∧ IsAs K G H vs (enc a) ∧ pre a ∧ PostR K H G E Q (res a)
def spJ (K : PySem.W.Frag) (n : Str) {A : Type} (enc : A → List AK) (pre : A → Prop) (flds : A → List (Str × D)) : Sp := fun vs H Q E => ∃ (x dx C : Addr) (ws : List V) (a : A) (G : Hp), vs = .ref x :: ws ∧ ClsA K n C ∧ H x = some (.ins C dx []) ∧ G x = none ∧ Ex G H ∧ IsAs K G H ws (enc a) ∧ pre a ∧
  ∀ G' H' xs, Grow G (dl H x) G' (dl H' x) → H' x = some (.ins C dx xs) → G' x = none → IsFs K G' xs (flds a) → Q .non H'
section
variable {P : Program} {w : World} {K : PySem.W.Frag} {mg : Str → Option Value} {base : Heap} {x qual n : Str} {st : Stmt} {f : Addr} {fd : FuncData} {N ps : List Str} {lv : Nat} {A : Type} {enc : A → List AK} {pre : A → Prop} {res : A → Res} {flds : A → List (Str × D)}
theorem def_okG (F : Fun K x qual st f fd) (S : FnScope N ps (defScope st)) (hlen : ∀ a, (enc a).length = ps.length)
    (hb : ∀ a, pre a → ∀ (X : Cx) (E : XK), X.prog = P → X.w = w → X.K = K → X.mg = mg → X.base = base → XOk lv N (defScope st) X → XCm X E →
      BK X E ((enc a).map bOf ++ List.replicate (N.length - (enc a).length) B.un) (defBody st) (fun s : Unit => List.replicate N.length B.un) (fun s : Empty => nomatch s) (Ctl.ret (res a))) : FnOk P w K mg base (L2.CX P w) (lv + 1) f fd ps (spG K enc pre res) := by
  refine F.okX S (fun vs H Q E h => ?_) (fun cdv Ar outer s H vs Q E hr h => ?_)
  · obtain ⟨a, G, _, h2, _⟩ := h
    rw [h2.len, hlen]
  · obtain ⟨a, G, h1, h2, h3, h4⟩ := h
    generalize hX : cxOf (L2.CX P w) P w K mg base N qual (defScope st) f cdv Ar outer s H E = X
    have ok : XOk lv N (defScope st) X := by
      subst hX
      exact ⟨⟨hr.dp, hr.un⟩, fun _ => rfl, rfl, rfl, S.nd, S.kind, rfl, rfl⟩
    have cm : XCm X E := by
      subst hX
      exact ⟨rfl, hr.hd, passes_of rfl, takes_of rfl rfl rfl rfl⟩
    have b := hb a h3 X E (by subst hX; rfl) (by subst hX; rfl) (by subst hX; rfl) (by subst hX; rfl) (by subst hX; rfl) ok cm
    have hK : X.K = K := by subst hX; rfl
    refine ⟨wS X (defBody st), pss_w, ?_⟩
    refine b H G _ G H _ ?_ (Grow.refl h1) ?_
    · rw [hK]
      exact stt_startN h2 h1
    · rw [hK]
      exact h4
theorem init_okJ (F : Fun K x qual st f fd) {nm : Str} (S : FnScope (nm :: N) ps (defScope st)) (hlen : ∀ a, (enc a).length + 1 = ps.length)
    (hb : ∀ a, pre a → ∀ (X : Cx) (E : XK), X.prog = P → X.w = w → X.K = K → X.mg = mg → X.base = base → XOk lv (nm :: N) (defScope st) X → XCm X E → ∀ x dx C, ClsA K n C →
      BI X x dx C (B.un :: ((enc a).map bOf ++ List.replicate (N.length - (enc a).length) B.un)) (defBody st) [] (flds a)) : FnOk P w K mg base (L2.CX P w) (lv + 1) f fd ps (spJ K n enc pre flds) := by
  refine F.okX S (fun vs H Q E h => ?_) (fun cdv Ar outer s H vs Q E hr h => ?_)
  · obtain ⟨x, dx, C, ws, a, G, rfl, _, _, _, _, h2, _⟩ := h
    rw [List.length_cons, h2.len, hlen]
  · obtain ⟨x, dx, C, ws, a, G, rfl, hC, hx, gx, h1, h2, h3, h4⟩ := h
    generalize hX : cxOf (L2.CX P w) P w K mg base (nm :: N) qual (defScope st) f cdv Ar outer s H E = X
    have ok : XOk lv (nm :: N) (defScope st) X := by
      subst hX
      exact ⟨⟨hr.dp, hr.un⟩, fun _ => rfl, rfl, rfl, S.nd, S.kind, rfl, rfl⟩
    have cm : XCm X E := by
      subst hX
      exact ⟨rfl, hr.hd, passes_of rfl, takes_of rfl rfl rfl rfl⟩
    have b := hb a h3 X E (by subst hX; rfl) (by subst hX; rfl) (by subst hX; rfl) (by subst hX; rfl) (by subst hX; rfl) ok cm x dx C hC
    have hK : X.K = K := by subst hX; rfl
    refine ⟨wS X (defBody st), pss_w, ?_⟩
    have e : L2.start (nm :: N) (V.ref x :: ws) = some (V.ref x) :: L2.start N ws := by
      unfold L2.start
      simp
    rw [e]
    refine b H _ G H _ [] ?_ rfl hx gx ?_ fun G' H' xs g hx' gx' hi => ?_
    · rw [hK]
      exact (stt_startN h2 h1).cons _
    · rw [hK]
      exact .nil
    · rw [hK] at hi
      exact h4 G' H' xs g hx' gx' hi
end
section
variable {X : Cx} {E : XK} {Γ : List B} {pos p : Pos} {x n : Str} {lv : Nat} {A : Type} {enc : A → List AK} {pre : A → Prop} {res : A → Res} {flds : A → List (Str × D)} {e : Expr} {es : List Expr}
/-- a borrowed list, read -/
theorem el_bor (i : Nat) {ds : List D} (hN : X.N[i]? = some x) (hv : Vis X.env.scope x) (h : Γ[i]? = some (B.bor ds)) (hd : (x == ("__debug__" : Str)) = false := by decide) (hcd : (x == ("__classdict__" : Str)) = false := by decide) : EL X Γ (.Name x pos) ds :=
  el_of (pe_var hN hv hd hcd) fun F σ G H s Q q => by
    obtain ⟨p, vs, h1, h2, h3, h4⟩ := s.bor i _ h
    exact ⟨_, h1, q p vs G H (.refl s.sub) h2 h4⟩
theorem er_callG (a : A) (tk : Takes X (fun cls d _ H => E cls d H)) (hk : KnX X x lv (spG X.K enc pre res)) (hr : Room lv X.A) (hg : Gl X x) (ha : EA2 X Γ (e :: es) (enc a)) (hp : pre a)
    (hdb : (x == ("__debug__" : Str)) = false := by decide) (he : starEach (e :: es) X.env = (false, eval e X.env) :: starEach es X.env := by exact starEach_ns rfl) (hpl : (backTo pos (starEach es X.env)).any (·.1) = false := by exact plain_ok rfl) : ER X E Γ (.Call (.Name x p) (e :: es) [] pos) (res a) := by
  obtain ⟨f, fd, ps, h1, h2, h3, h4⟩ := hk.ex
  refine er_of (pe_call (E := E) h1 hr hg h2 h3 h4 .nil (passes_call tk fun _ _ _ _ h => h) pa_w hdb he hpl) fun F σ G H s Q q => ha F σ G H s _ fun vs G1 H1 g1 i1 => ?_
  rw [List.append_nil]
  exact ⟨a, G1, g1.s, i1, hp, PostR.grow g1 q⟩
theorem ed_callG (a : A) {z : D} (hk : KnX X x lv (spG X.K enc pre res)) (hr : Room lv X.A) (hg : Gl X x) (ha : EA2 X Γ (e :: es) (enc a)) (hp : pre a) (hv : res a = .v z)
    (hdb : (x == ("__debug__" : Str)) = false := by decide) (he : starEach (e :: es) X.env = (false, eval e X.env) :: starEach es X.env := by exact starEach_ns rfl) (hpl : (backTo pos (starEach es X.env)).any (·.1) = false := by exact plain_ok rfl) : ED X Γ (.Call (.Name x p) (e :: es) [] pos) z := by
  obtain ⟨f, fd, ps, h1, h2, h3, h4⟩ := hk.ex
  refine ed_of (pe_call h1 hr hg h2 h3 h4 .nil passL pa_w hdb he hpl) fun F σ G H s Q q => ha F σ G H s _ fun vs G1 H1 g1 i1 => ?_
  rw [List.append_nil]
  refine ⟨a, G1, g1.s, i1, hp, ?_⟩
  rw [hv]
  exact fun v G2 H2 g2 i2 => q v G2 H2 (g1.trans g2) i2
theorem eo_callG (a : A) {z : OO} (hk : KnX X x lv (spG X.K enc pre res)) (hr : Room lv X.A) (hg : Gl X x) (ha : EA2 X Γ (e :: es) (enc a)) (hp : pre a) (hv : res a = .o z)
    (hdb : (x == ("__debug__" : Str)) = false := by decide) (he : starEach (e :: es) X.env = (false, eval e X.env) :: starEach es X.env := by exact starEach_ns rfl) (hpl : (backTo pos (starEach es X.env)).any (·.1) = false := by exact plain_ok rfl) : EO X Γ (.Call (.Name x p) (e :: es) [] pos) z := by
  obtain ⟨f, fd, ps, h1, h2, h3, h4⟩ := hk.ex
  refine eo_of (pe_call h1 hr hg h2 h3 h4 .nil passL pa_w hdb he hpl) fun F σ G H s Q q => ha F σ G H s _ fun vs G1 H1 g1 i1 => ?_
  rw [List.append_nil]
  refine ⟨a, G1, g1.s, i1, hp, ?_⟩
  rw [hv]
  exact fun p u G2 H2 g2 hp n hn ho => q p u G2 H2 (g1.trans g2) hp n (Evl.fresh_back g1.h hn) ho
theorem ed_makeJ (a : A) (hk : MkX X n lv (spJ X.K n enc pre flds)) (hr : Room (lv + 1) X.A) (hg : Gl X n) (ha : EA2 X Γ (e :: es) (enc a)) (hp : pre a)
    (hdb : (n == ("__debug__" : Str)) = false := by decide) (he : starEach (e :: es) X.env = (false, eval e X.env) :: starEach es X.env := by exact starEach_ns rfl) (hpl : (backTo pos (starEach es X.env)).any (·.1) = false := by exact plain_ok rfl) : ED X Γ (.Call (.Name n p) (e :: es) [] pos) (.ins n (flds a)) := by
  obtain ⟨C, f, fd, ps, h1, hC, hM, hF, hB⟩ := hk.ex
  refine ed_of (pe_make (E := E0) hM hF hr hg h1 hB .nil passL pa_w hdb he hpl) fun F σ G H s Q q => ha F σ G H s _ fun vs G1 H1 g1 i1 x dx hx hdx hne => ?_
  rw [List.append_nil]
  have gx : G1 x = none := Evl.fresh_back g1.s hx
  have gdx : G1 dx = none := Evl.fresh_back g1.s hdx
  have up : ∀ b o, H1 b = some o → (upd (upd H1 dx (.own x)) x (.ins C dx [])) b = some o := fun b o eb => by
    rw [upd_ne (ne_of_none eb hx), upd_ne (ne_of_none eb hdx)]
    exact eb
  have ex1 : Ex G1 (upd (upd H1 dx (.own x)) x (.ins C dx [])) := fun b o eb => up b o (g1.s b o eb)
  have i2 : IsAs X.K G1 (upd (upd H1 dx (.own x)) x (.ins C dx [])) vs (enc a) := by
    clear hp
    generalize enc a = as at i1
    induction i1 with
    | nil => exact .nil
    | d h _ ih => exact .d h ih
    | l h1 h2 _ ih => exact .l (up _ _ h1) h2 ih
  refine ⟨x, dx, C, vs, a, G1, rfl, hC, upd_same, gx, ex1, i2, hp, fun G' H' xs g hx' gx' hi => ⟨rfl, ?_⟩⟩
  have hH : Ex H1 H' := fun b o eb => by
    have hb : b ≠ x := ne_of_none eb hx
    have hb2 : b ≠ dx := ne_of_none eb hdx
    have z := g.h b o (by rw [dl_ne hb, upd_ne hb, upd_ne hb2]; exact eb)
    rw [dl_ne hb] at z
    exact z
  have gs : Ex G' H' := fun b o eb => by
    have hb : b ≠ x := ne_of_none eb gx'
    have z := g.s b o eb
    rw [dl_ne hb] at z
    exact z
  have g2 : Grow G1 H1 G' H' := ⟨g.g, hH, gs, fun b o eb mb => by
    have hb : b ≠ x := ne_of_none eb hx
    have hb2 : b ≠ dx := ne_of_none eb hdx
    exact g.f b o (by rw [dl_ne hb, upd_ne hb, upd_ne hb2]; exact eb) mb⟩
  exact q (.ref x) (upd G' x (.ins C dx xs)) H' (g1.trans (g2.frz hx hx' gx')) (.ins hC.nm upd_same (IsFs.mono (Evl.Ex.new gx') _ _ hi))
end
end Sd

namespace Sd
open PySem PySem.Spec PyProof.Rows L2
/-! ### what a def hands back, by its kind -/
inductive Out (R : Type) where
  | ok (v : R) | err (e : Exn) | stk
inductive Co (S T R : Type) where
  | go (s : S) | brk (b : T) | ret (o : Out R)
def rsOf {R : Type} (f : R → Res) : Out R → Res
  | .ok v => f v
  | .err e => .x e
  | .stk => .stk
def Co.ctl {S T R : Type} (f : R → Res) : Co S T R → Ctl S T
  | .go s => .go s
  | .brk b => .brk b
  | .ret o => .ret (rsOf f o)
def Out.IsOk {R : Type} : Out R → Prop
  | .ok _ => True
  | _ => False
def Out.get {R : Type} (d : R) : Out R → R
  | .ok v => v
  | _ => d
theorem Out.get_ok {R : Type} {d : R} {o : Out R} (h : o.IsOk) : o = .ok (o.get d) := by
  cases o with
  | ok v => rfl
  | err e => exact h.elim
  | stk => exact h.elim
theorem Out.ok_of {R : Type} {o : Out R} {v : R} (h : o = .ok v) : o.IsOk := by
  rw [h]
  trivial
theorem Out.get_of {R : Type} {o : Out R} {v d : R} (h : o = .ok v) : o.get d = v := by
  rw [h]
  rfl
theorem rsOf_ok {R : Type} {f : R → Res} {o : Out R} (d : R) (h : o.IsOk) : rsOf f o = f (o.get d) := by
  cases o with
  | ok v => rfl
  | err e => exact h.elim
  | stk => exact h.elim
def Co.bind {S S' T R : Type} (c : Co S T R) (f : S → Co S' T R) : Co S' T R := match c with
  | .go s => f s
  | .brk b => .brk b
  | .ret r => .ret r
def Co.up {S T R : Type} (c : Co Empty T R) : Co S T R := match c with
  | .go s => nomatch s
  | .brk b => .brk b
  | .ret r => .ret r
def coLoop {S Y T R : Type} (step : S → Y → Co S S R) : S → List Y → Co S T R
  | s, [] => .go s
  | s, y :: ys => match step s y with
    | .go s' => coLoop step s' ys
    | .brk s' => .go s'
    | .ret r => .ret r
def bndO {α S T R : Type} (r : Out α) (k : α → Co S T R) : Co S T R := match r with
  | .ok v => k v
  | .err e => .ret (.err e)
  | .stk => .ret .stk
noncomputable def chk {S T R : Type} (p : Prop) (k : Co S T R) : Co S T R := @ite _ p (Classical.propDecidable p) k (.ret .stk)
theorem chk_pos {S T R : Type} {p : Prop} {k : Co S T R} (h : p) : chk p k = k := by
  unfold chk
  exact if_pos h
theorem chk_neg {S T R : Type} {p : Prop} {k : Co S T R} (h : ¬ p) : chk p k = .ret .stk := by
  unfold chk
  exact if_neg h
/-- what a body hands back, g where it falls through -/
def Co.out {R : Type} (g : Out R) : Co Unit Empty R → Out R
  | .go _ => g
  | .brk b => nomatch b
  | .ret o => o
theorem ctl_bind {S S' T R : Type} {f : R → Res} (c : Co S T R) (k : S → Co S' T R) : (c.bind k).ctl f = (c.ctl f).bind fun s => (k s).ctl f := by
  cases c <;> rfl
theorem ctl_up {S T R : Type} {f : R → Res} (c : Co Empty T R) : (c.up : Co S T R).ctl f = (c.ctl f).up := by
  cases c with
  | go s => exact nomatch s
  | brk b => rfl
  | ret r => rfl
theorem ctl_ite {S T R : Type} {f : R → Res} (b : Bool) (k1 k2 : Co S T R) : (if b = true then k1 else k2).ctl f = if b = true then k1.ctl f else k2.ctl f := by
  cases b <;> rfl
theorem ctl_loop {S Y T R : Type} {f : R → Res} {step : S → Y → Co S S R} : ∀ (ys : List Y) (s : S), (coLoop step s ys : Co S T R).ctl f = loop (fun s y => (step s y).ctl f) s ys
  | [], s => rfl
  | y :: ys, s => by
    unfold coLoop loop
    cases h : step s y with
    | go s' => exact ctl_loop ys s'
    | brk s' => rfl
    | ret r => rfl
abbrev BC {S T R : Type} (X : Cx) (E : XK) (Γ : List B) (sts : List Stmt) (Γs : S → List B) (Γb : T → List B) (f : R → Res) (k : Co S T R) : Prop := BK X E Γ sts Γs Γb (k.ctl f)
section
variable {X : Cx} {E : XK} {Γ : List B} {S T R : Type} {Γs : S → List B} {Γb : T → List B} {f : R → Res} {st : Stmt} {rest sts : List Stmt} {pos : Pos} {lv : Nat} {N : List Str} {sc : Scope} {y : Str} {py : Pos} {e : Expr}
theorem c_stk : BC X E Γ sts Γs Γb f (.ret .stk) := fun F G0 σ G H D s gr post => (show False from post).elim
theorem c_chk {p : Prop} {k : Co S T R} (h : p → BC X E Γ sts Γs Γb f k) : BC X E Γ sts Γs Γb f (chk p k) := by
  by_cases q : p
  · rw [chk_pos q]
    exact h q
  · rw [chk_neg q]
    exact c_stk
theorem c_nil {s : S} (h : Wk Γ (Γs s)) : BC X E Γ [] Γs Γb f (.go s) := b_nil h
theorem c_ret {x : R} {z : D} (he : ED X Γ e z) (hf : f x = .v z) : BC X E Γ (.Return (some e) pos :: rest) Γs Γb f (.ret (.ok x)) := by
  show BK _ _ _ _ _ _ (.ret (f x))
  rw [hf]
  exact b_ret he
theorem c_retO {x : R} {z : OO} (he : EO X Γ e z) (hf : f x = .o z) : BC X E Γ (.Return (some e) pos :: rest) Γs Γb f (.ret (.ok x)) := by
  show BK _ _ _ _ _ _ (.ret (f x))
  rw [hf]
  exact b_retO he
theorem c_retN {x : R} (hf : f x = .v .non) : BC X E Γ (.Return none pos :: rest) Γs Γb f (.ret (.ok x)) := by
  show BK _ _ _ _ _ _ (.ret (f x))
  rw [hf]
  exact b_retN
theorem c_retV (i : Nat) {o : OO} {x : R} (hX : XOk lv N sc X) (hn : N[i]? = some y) (hl : Vis sc y) (h : Γ[i]? = some (B.own o)) (hf : f x = .o o) (hd : (y == ("__debug__" : Str)) = false := by decide) (hcd : (y == ("__classdict__" : Str)) = false := by decide) :
    BC X E Γ (.Return (some (.Name y py)) pos :: rest) Γs Γb f (.ret (.ok x)) := by
  show BK _ _ _ _ _ _ (.ret (f x))
  rw [hf]
  exact b_retV i hX hn hl h hd hcd
theorem c_retR {r : Out R} (he : ER X E Γ e (rsOf f r)) : BC X E Γ (.Return (some e) pos :: rest) Γs Γb f (.ret r) := b_retR he
variable {c : Expr} {b : Bool} {A C : List Stmt}
theorem c_ifr {k1 : Co Empty T R} {k2 : Co S T R} (hc : ET X Γ c b) (h1 : b = true → BC X E Γ A (fun s : Empty => nomatch s) Γb f k1) (h2 : b = false → BC X E Γ rest Γs Γb f k2) : BC X E Γ (.If c A [] pos :: rest) Γs Γb f (if b = true then k1.up else k2) := by
  show BK _ _ _ _ _ _ (Co.ctl f (if b = true then k1.up else k2))
  rw [ctl_ite, ctl_up]
  exact b_ifr hc h1 h2
theorem c_ifj {S' : Type} {Γj : S' → List B} {k1 k2 : Co S' T R} {kr : S' → Co S T R} (hc : ET X Γ c b) (h1 : b = true → BC X E Γ A Γj Γb f k1) (h2 : b = false → BC X E Γ C Γj Γb f k2) (hr : ∀ s', BC X E (Γj s') rest Γs Γb f (kr s')) : BC X E Γ (.If c A C pos :: rest) Γs Γb f ((if b = true then k1 else k2).bind kr) := by
  show BK _ _ _ _ _ _ (Co.ctl f ((if b = true then k1 else k2).bind kr))
  rw [ctl_bind, ctl_ite]
  exact b_ifj hc h1 h2 fun s' _ => hr s'
theorem c_for {S' Y : Type} {Γl : S' → List B} {kr : S' → Co S T R} {tg iter : Expr} {body : List Stmt} {g : TG} {js : List Nat} (encY : Y → D) (step : S' → Y → Co S' S' R) (s0 : S') (ys : List Y) (Γy : S' → Y → List B) (hM : XCm X E) (hX : XOk lv N sc X)
    (h0 : Wk Γ (Γl s0)) (hi : IT X Γ tg iter (ys.map encY)) (hg : PG X tg g) (htg : ∀ s y, TgD X.K g js (Γl s) (encY y) (Γy s y))
    (hb : ∀ s y, BC X E (Γy s y) body Γl Γl f (step s y)) (hr : ∀ s, BC X E (Γl s) rest Γs Γb f (kr s)) (hs : ∀ x, foldedSetIterable iter X.env x = pure x := by exact fs_ns rfl) :
    BC X E Γ (.For tg iter body [] pos :: rest) Γs Γb f ((coLoop step s0 ys).bind kr) := by
  show BK _ _ _ _ _ _ (Co.ctl f ((coLoop step s0 ys).bind kr))
  rw [ctl_bind, ctl_loop]
  exact b_for (fun _ _ => True) encY _ s0 ys Γy hM hX h0 trivial hi hg htg (fun i s y _ _ => hb s y) (fun _ _ _ _ _ _ _ => trivial) (fun s _ => hr s) hs
theorem c_setR {τ : Type} (i : Nat) (enc : τ → D) {r : Out τ} {k : τ → Co S T R} (hX : XOk lv N sc X) (hn : N[i]? = some y) (hl : Loc sc y) (he : ER X E Γ e (rsOf (fun v => .v (enc v)) r)) (hr : ∀ v, BC X E (Γ.set i (.d (enc v))) rest Γs Γb f (k v)) (hs : swapsWith e (some (.Name y py)) pos.line X.env = pure false := by exact sw_ns rfl) :
    BC X E Γ (.Assign [.Name y py] e pos :: rest) Γs Γb f (bndO r k) := by
  cases r with
  | ok v => exact b_setR i enc (r := .ok v) (k := fun v => (k v).ctl f) hX hn hl he (fun v _ => hr v) hs
  | err x => exact b_setR i enc (r := .error x) (k := fun v => (k v).ctl f) hX hn hl he (fun v _ => hr v) hs
  | stk => exact c_stk
theorem c_setRO {τ : Type} (i : Nat) (enc : τ → OO) {r : Out τ} {k : τ → Co S T R} (hX : XOk lv N sc X) (hn : N[i]? = some y) (hl : Loc sc y) (he : ER X E Γ e (rsOf (fun v => .o (enc v)) r)) (hr : ∀ v, BC X E (Γ.set i (.own (enc v))) rest Γs Γb f (k v)) (hs : swapsWith e (some (.Name y py)) pos.line X.env = pure false := by exact sw_ns rfl) :
    BC X E Γ (.Assign [.Name y py] e pos :: rest) Γs Γb f (bndO r k) := by
  cases r with
  | ok v => exact b_setRO i enc (r := .ok v) (k := fun v => (k v).ctl f) hX hn hl he (fun v _ => hr v) hs
  | err x => exact b_setRO i enc (r := .error x) (k := fun v => (k v).ctl f) hX hn hl he (fun v _ => hr v) hs
  | stk => exact c_stk
theorem c_setRT {τ : Type} (enc : τ → D) {r : Out τ} {k : τ → Co S T R} {tg : Expr} {g : TG} {js : List Nat} (Γ' : τ → List B) (hg : PG X tg g) (htg : ∀ v, TgD X.K g js Γ (enc v) (Γ' v)) (he : ER X E Γ e (rsOf (fun v => .v (enc v)) r)) (hr : ∀ v, BC X E (Γ' v) rest Γs Γb f (k v))
    (hs : swapsWithSole [tg] e pos.line X.env = pure false := by exact sws_ns rfl) (hw : swappedStores [tg] e X.env = pure none := by exact sst_ns rfl) (h1 : (assignEach [tg] X.env).map (·.2) = [assign tg X.env] := by rfl) : BC X E Γ (.Assign [tg] e pos :: rest) Γs Γb f (bndO r k) := by
  cases r with
  | ok v => exact b_setRT enc (r := .ok v) (k := fun v => (k v).ctl f) Γ' hg htg he (fun v _ => hr v) hs hw h1
  | err x => exact b_setRT enc (r := .error x) (k := fun v => (k v).ctl f) Γ' hg htg he (fun v _ => hr v) hs hw h1
  | stk => exact c_stk
/-- an expression that is evaluated for its own sake -/
theorem c_exprR {τ : Type} {res : τ → Res} {r : Out τ} {k : τ → Co S T R} (he : ER X E Γ e (rsOf res r)) (hr : ∀ v, BC X E Γ rest Γs Γb f (k v)) (hs : swapsWith e none pos.line X.env = pure false := by exact sw_ns rfl) (hres : ∀ v, (∃ z, res v = .v z) ∨ ∃ z, res v = .o z := by exact fun _ => by first | exact .inl ⟨_, rfl⟩ | exact .inr ⟨_, rfl⟩) :
    BC X E Γ (.Expr e pos :: rest) Γs Γb f (bndO r k) := by
  cases r with
  | ok v =>
    intro F G0 σ G H D s gr post
    refine w_cons (ps_expr pe_w hs) (he F σ G H s _ ?_)
    show PostR _ _ _ _ _ (res v)
    rcases hres v with ⟨z, e⟩ | ⟨z, e⟩
    · rw [e]
      exact fun v' G1 H1 g1 _ => hr v F G0 σ G1 H1 D (s.grow g1) (gr.trans g1) (PostC.up post g1.g)
    · rw [e]
      exact fun p u G1 H1 g1 _ _ _ _ => hr v F G0 σ G1 H1 D (s.grow g1) (gr.trans g1) (PostC.up post g1.g)
  | err x =>
    intro F G0 σ G H D s gr post
    exact w_cons (ps_expr pe_w hs) (he F σ G H s _ (PostR.grow gr (show PostR X.K F G0 E D.rt (.x x) from post)))
  | stk => exact c_stk
end
/-! ### defs -/
section
variable {P : Program} {w : World} {K : PySem.W.Frag} {mg : Str → Option Value} {base : Heap} {x qual : Str} {st : Stmt} {fa : Addr} {fd : FuncData} {N ps : List Str} {lv : Nat} {A R : Type} {encA : A → List AK} {f : R → Res}
theorem def_okC (F : Fun K x qual st fa fd) (S : FnScope N ps (defScope st)) (g : Out R) (hg : rsOf f g = .stk ∨ rsOf f g = .v .non) (hlen : ∀ a, (encA a).length = ps.length) (k : A → Co Unit Empty R)
    (hb : ∀ a, ∀ (X : Cx) (E : XK), X.prog = P → X.w = w → X.K = K → X.mg = mg → X.base = base → XOk lv N (defScope st) X → XCm X E →
      BC X E ((encA a).map bOf ++ List.replicate (N.length - (encA a).length) B.un) (defBody st) (fun s : Unit => List.replicate N.length B.un) (fun s : Empty => nomatch s) f (k a)) : FnOk P w K mg base (L2.CX P w) (lv + 1) fa fd ps (spG K encA (fun _ => True) (fun a => rsOf f ((k a).out g))) := by
  refine F.okX S (fun vs H Q E h => ?_) (fun cdv Ar outer s H vs Q E hr h => ?_)
  · obtain ⟨a, G, _, h2, _⟩ := h
    rw [h2.len, hlen]
  · obtain ⟨a, G, h1, h2, h3, h4⟩ := h
    have h4 : PostR K H G E Q (rsOf f ((k a).out g)) := h4
    generalize hX : cxOf (L2.CX P w) P w K mg base N qual (defScope st) fa cdv Ar outer s H E = X
    have ok : XOk lv N (defScope st) X := by
      subst hX
      exact ⟨⟨hr.dp, hr.un⟩, fun _ => rfl, rfl, rfl, S.nd, S.kind, rfl, rfl⟩
    have cm : XCm X E := by
      subst hX
      exact ⟨rfl, hr.hd, passes_of rfl, takes_of rfl rfl rfl rfl⟩
    have b := hb a X E (by subst hX; rfl) (by subst hX; rfl) (by subst hX; rfl) (by subst hX; rfl) (by subst hX; rfl) ok cm
    have hK : X.K = K := by subst hX; rfl
    refine ⟨wS X (defBody st), pss_w, ?_⟩
    refine b H G _ G H _ ?_ (Grow.refl h1) ?_
    · rw [hK]
      exact stt_startN h2 h1
    · rw [hK]
      cases hka : k a with
      | go u =>
        rw [hka] at h4
        have h4' : PostR K H G E Q (rsOf f g) := h4
        rcases hg with hg | hg
        · rw [hg] at h4'
          exact (show False from h4').elim
        · rw [hg] at h4'
          exact fun σ' G' H' _ _ gr => h4' .non G' H' gr .non
      | brk b => exact nomatch b
      | ret r =>
        rw [hka] at h4
        exact h4
end
end Sd

namespace Sd
open PySem PySem.Spec PyProof.Rows L2
section
variable {X : Cx} {E : XK} {Γ : List B} {S T R : Type} {Γs : S → List B} {Γb : T → List B} {f : R → Res} {st : Stmt} {rest sts : List Stmt} {pos : Pos} {lv : Nat} {N : List Str} {sc : Scope} {y : Str} {py : Pos} {e o ie : Expr} {apos cpos spos : Pos}
theorem c_frz (i : Nat) {ds : List D} {k : Co S T R} (h : Γ[i]? = some (B.own (.lst ds))) (hr : BC X E (Γ.set i (.d (.lst ds))) sts Γs Γb f k) : BC X E Γ sts Γs Γb f k := b_frz i h hr
theorem c_set {τ : Type} (i : Nat) (enc : τ → D) {x : τ} {k : τ → Co S T R} (hX : XOk lv N sc X) (hn : N[i]? = some y) (hl : Loc sc y) (he : ED X Γ e (enc x)) (hr : ∀ v, v = x → BC X E (Γ.set i (.d (enc v))) rest Γs Γb f (k v)) (hs : swapsWith e (some (.Name y py)) pos.line X.env = pure false := by exact sw_ns rfl) :
    BC X E Γ (.Assign [.Name y py] e pos :: rest) Γs Γb f (bnd x k) := by
  show BK _ _ _ _ _ _ (bnd x fun v => (k v).ctl f)
  exact b_set i enc hX hn hl he hr hs
theorem c_setO {τ : Type} (i : Nat) (enc : τ → OO) {x : τ} {k : τ → Co S T R} (hX : XOk lv N sc X) (hn : N[i]? = some y) (hl : Loc sc y) (he : EO X Γ e (enc x)) (hr : ∀ v, v = x → BC X E (Γ.set i (.own (enc v))) rest Γs Γb f (k v)) (hs : swapsWith e (some (.Name y py)) pos.line X.env = pure false := by exact sw_ns rfl) :
    BC X E Γ (.Assign [.Name y py] e pos :: rest) Γs Γb f (bnd x k) := by
  show BK _ _ _ _ _ _ (bnd x fun v => (k v).ctl f)
  exact b_setO i enc hX hn hl he hr hs
theorem c_setLc {τ : Type} (i : Nat) (enc : τ → OO) {x : τ} {k : τ → Co S T R} {elt tg iter : Expr} {ifs : List Expr} {scope : Scope} {own : List (Str × Nat)} {cp : Pos} (hM : XCm X E) (hX : XOk lv N sc X) (hn : N[i]? = some y) (hl : sc.names.lookup y = some .local)
    (hsw : swapsWith (.ListComp elt [⟨tg, iter, ifs, 0⟩] scope cp) (some (.Name y py)) pos.line X.env = pure true) (he : LcOk X Γ elt tg iter ifs scope own (enc x)) (hr : ∀ v, v = x → BC X E (Γ.set i (.own (enc v))) rest Γs Γb f (k v)) (hs : ∀ x, foldedSetIterable iter X.env x = pure x := by exact fs_ns rfl) :
    BC X E Γ (.Assign [.Name y py] (.ListComp elt [⟨tg, iter, ifs, 0⟩] scope cp) pos :: rest) Γs Γb f (bnd x k) := by
  show BK _ _ _ _ _ _ (bnd x fun v => (k v).ctl f)
  exact b_setLc i enc hM hX hn hl hsw he hr hs
theorem c_setT {τ : Type} (enc : τ → D) {x : τ} {k : τ → Co S T R} {tg : Expr} {g : TG} {js : List Nat} (Γ' : τ → List B) (hg : PG X tg g) (htg : ∀ v, TgD X.K g js Γ (enc v) (Γ' v)) (he : ED X Γ e (enc x)) (hr : ∀ v, v = x → BC X E (Γ' v) rest Γs Γb f (k v))
    (hs : swapsWithSole [tg] e pos.line X.env = pure false := by exact sws_ns rfl) (hw : swappedStores [tg] e X.env = pure none := by exact sst_ns rfl) (h1 : (assignEach [tg] X.env).map (·.2) = [assign tg X.env] := by rfl) : BC X E Γ (.Assign [tg] e pos :: rest) Γs Γb f (bnd x k) := by
  show BK _ _ _ _ _ _ (bnd x fun v => (k v).ctl f)
  exact b_setT enc Γ' hg htg he hr hs hw h1
theorem c_app {τ : Type} (i : Nat) (enc : τ → D) {xs : List τ} {x : τ} {k : List τ → Co S T R} (hX : XOk lv N sc X) (hn : N[i]? = some y) (hl : Vis sc y) (h : Γ[i]? = some (B.own (.lst (xs.map enc)))) (he : ED X Γ e (enc x)) (hz : xs.length < sizeLine)
    (hr : ∀ zs, zs = xs ++ [x] → BC X E (Γ.set i (.own (.lst (zs.map enc)))) rest Γs Γb f (k zs)) (hfew : ((backTo cpos (starEach (e :: []) X.env)).all (fun x => !x.1) && (backToKw cpos (keywordEach [] X.env)).all (fun x => x.1.isSome) && decide ((e :: ([] : List Expr)).length + ([] : List Keyword).length + (if ([] : List Keyword).isEmpty then 0 else 1) < 30)) = true := by exact few_ok rfl)
    (hst : starEach (e :: []) X.env = (false, eval e X.env) :: starEach [] X.env := by exact starEach_ns rfl) (hline : (apos.endLine == cpos.line) = true := by rfl) (hd : (y == ("__debug__" : Str)) = false := by decide) (hcd : (y == ("__classdict__" : Str)) = false := by decide) :
    BC X E Γ (.Expr (.Call (.Attribute (.Name y py) "append" apos) [e] [] cpos) pos :: rest) Γs Γb f (bnd (xs ++ [x]) k) := by
  show BK _ _ _ _ _ _ (bnd (xs ++ [x]) fun v => (k v).ctl f)
  exact b_app i enc hX hn hl h he hz hr (hfew := hfew) (hst := hst) (hline := hline) (hd := hd) (hcd := hcd)
theorem c_setI {τ : Type} (i : Nat) (enc : τ → D) {xs : List τ} {x : τ} {n : Int} {k : List τ → Co S T R} (hX : XOk lv N sc X) (hn : N[i]? = some y) (hl : Vis sc y) (h : Γ[i]? = some (B.own (.lst (xs.map enc)))) (he : ED X Γ e (enc x)) (hi : ED X Γ ie (.int n)) (hz : 0 ≤ n ∧ n < xs.length)
    (hr : ∀ zs, zs = xs.set n.toNat x → BC X E (Γ.set i (.own (.lst (zs.map enc)))) rest Γs Γb f (k zs))
    (hs : swapsWithSole [.Subscript (.Name y py) ie spos] e pos.line X.env = pure false := by exact sws_ns rfl)
    (ha : ∀ v, assign (.Subscript (.Name y py) ie spos) X.env v = (do
      let ov ← holding [v] (eval (.Name y py) X.env)
      let iv ← holding [v, ov] (eval ie X.env)
      standAt spos
      holding [v, ov, iv] (setItem ov iv v)
      release [v, ov, iv] []) := by intro _; rfl) (hd : (y == ("__debug__" : Str)) = false := by decide) (hcd : (y == ("__classdict__" : Str)) = false := by decide) :
    BC X E Γ (.Assign [.Subscript (.Name y py) ie spos] e pos :: rest) Γs Γb f (bnd (xs.set n.toNat x) k) := by
  show BK _ _ _ _ _ _ (bnd (xs.set n.toNat x) fun v => (k v).ctl f)
  obtain ⟨m, rfl⟩ := Int.eq_ofNat_of_zero_le hz.1
  exact b_setI i enc hX hn hl h he hi (show m < xs.length by omega) hr (hs := hs) (ha := ha) (hd := hd) (hcd := hcd)
theorem c_clear {τ : Type} (i : Nat) (enc : τ → D) {xs : List τ} {k : Co S T R} (hX : XOk lv N sc X) (hn : N[i]? = some y) (hl : Vis sc y) (h : Γ[i]? = some (B.own (.lst (xs.map enc)))) (hz : xs.length ≤ sizeLine)
    (hr : BC X E (Γ.set i (.own (.lst (([] : List τ).map enc)))) rest Γs Γb f k) (hline : (apos.endLine == cpos.line) = true := by rfl) (hd : (y == ("__debug__" : Str)) = false := by decide) (hcd : (y == ("__classdict__" : Str)) = false := by decide) :
    BC X E Γ (.Expr (.Call (.Attribute (.Name y py) "clear" apos) [] [] cpos) pos :: rest) Γs Γb f k := b_clear i enc hX hn hl h hz hr (hline := hline) (hd := hd) (hcd := hcd)
/-- y.reverse() -/
theorem c_reverse {τ : Type} (i : Nat) (enc : τ → D) {xs : List τ} {k : List τ → Co S T R} (hX : XOk lv N sc X) (hn : N[i]? = some y) (hl : Vis sc y) (h : Γ[i]? = some (B.own (.lst (xs.map enc))))
    (hr : ∀ zs, zs = xs.reverse → BC X E (Γ.set i (.own (.lst (zs.map enc)))) rest Γs Γb f (k zs)) (hline : (apos.endLine == cpos.line) = true := by rfl) (hd : (y == ("__debug__" : Str)) = false := by decide) (hcd : (y == ("__classdict__" : Str)) = false := by decide) :
    BC X E Γ (.Expr (.Call (.Attribute (.Name y py) "reverse" apos) [] [] cpos) pos :: rest) Γs Γb f (bnd xs.reverse k) := fun F G0 σ G H D s gr post => by
  obtain ⟨p, u, h1, h2, h3, h4, h5⟩ := s.own i _ h
  obtain ⟨vs, rfl, iv⟩ := h5.lst
  refine w_cons (ps_expr (pe_bm0 PySem.F.plainAttrs_list PySem.F.slot_list_reverse PySem.F.type_list_reverse mt_reverse (pe_var (hX.nm hn) (hX.vs hl) hd hcd) (ab_ns rfl) hline) (sw_ns rfl)) ?_
  refine ⟨_, h1, .inl ⟨rfl, vs, .inl (.inl h2)⟩, ?_⟩
  have s2 := s.mut (u := .lst vs.reverse) (o' := .lst (xs.reverse.map enc)) h h1 (by
    show IsAll _ _ _ _
    rw [List.map_reverse]
    exact iv.rev)
  refine ⟨p, vs, rfl, rfl, h2, ?_⟩
  refine hr _ rfl F G0 σ G _ D s2 ⟨gr.g, fun b o eo => ?_, s2.sub, gr.f⟩ post
  rw [upd_ne (ne_of_none eo h4)]
  exact gr.h b o eo
/-- y.extend(zs) -/
theorem c_extend {τ : Type} (i : Nat) (enc : τ → D) {xs ys : List τ} {k : List τ → Co S T R} (hX : XOk lv N sc X) (hn : N[i]? = some y) (hl : Vis sc y) (h : Γ[i]? = some (B.own (.lst (xs.map enc)))) (he : EL X Γ e (ys.map enc)) (hz : xs.length + ys.length ≤ sizeLine)
    (hr : ∀ zs, zs = xs ++ ys → BC X E (Γ.set i (.own (.lst (zs.map enc)))) rest Γs Γb f (k zs)) (hfew : ((backTo cpos (starEach (e :: []) X.env)).all (fun x => !x.1) && (backToKw cpos (keywordEach [] X.env)).all (fun x => x.1.isSome) && decide ((e :: ([] : List Expr)).length + ([] : List Keyword).length + (if ([] : List Keyword).isEmpty then 0 else 1) < 30)) = true := by exact few_ok rfl)
    (hst : starEach (e :: []) X.env = (false, eval e X.env) :: starEach [] X.env := by exact starEach_ns rfl) (hline : (apos.endLine == cpos.line) = true := by rfl) (hd : (y == ("__debug__" : Str)) = false := by decide) (hcd : (y == ("__classdict__" : Str)) = false := by decide) :
    BC X E Γ (.Expr (.Call (.Attribute (.Name y py) "extend" apos) [e] [] cpos) pos :: rest) Γs Γb f (bnd (xs ++ ys) k) := fun F G0 σ G H D s gr post => by
  obtain ⟨p, u, h1, h2, h3, h4, h5⟩ := s.own i _ h
  obtain ⟨vs, rfl, iv⟩ := h5.lst
  refine w_cons (ps_expr (pe_bm PySem.F.plainAttrs_list PySem.F.slot_list_extend PySem.F.type_list_extend mt_extend (pe_var (hX.nm hn) (hX.vs hl) hd hcd) (pa_cons pe_w pa_nil hst) (ab_ns rfl) hfew hline hst (plain_ok rfl)) (sw_ns rfl)) ?_
  refine ⟨_, h1, .inl ⟨rfl, vs, .inl (.inl h2)⟩, he F σ G H s _ fun q ws G1 H1 g1 hq i1 => ?_⟩
  have s1 := s.grow g1
  have nG : G1 p = none := g1.f p _ h2 h3
  refine ⟨p, q, vs, ws, rfl, rfl, g1.h _ _ h2, hq, by rw [iv.len, i1.len, List.length_map, List.length_map]; exact hz, ?_⟩
  have s2 := s1.mut (u := .lst (vs ++ ws)) (o' := .lst ((xs ++ ys).map enc)) h h1 (by
    show IsAll _ _ _ _
    rw [List.map_append]
    exact (iv.up g1.g).app i1)
  have g2 := gr.trans g1
  refine hr (xs ++ ys) rfl F G0 σ G1 _ D s2 ⟨g2.g, fun b o eo => ?_, s2.sub, g2.f⟩ (post.up g1.g)
  rw [upd_ne (ne_of_none eo h4)]
  exact g2.h b o eo
theorem c_appX {ds : List D} {x : D} {k : Co S T R} (hX : XOk lv N sc X) (ho : EO X Γ o (.lst ds)) (he : ED X Γ e x) (hz : ds.length < sizeLine) (hr : BC X E Γ rest Γs Γb f k)
    (hbase : attributeBase o "append" X.env (eval o X.env) = eval o X.env := by rfl) (hfew : ((backTo cpos (starEach (e :: []) X.env)).all (fun x => !x.1) && (backToKw cpos (keywordEach [] X.env)).all (fun x => x.1.isSome) && decide ((e :: ([] : List Expr)).length + ([] : List Keyword).length + (if ([] : List Keyword).isEmpty then 0 else 1) < 30)) = true := by exact few_ok rfl)
    (hst : starEach (e :: []) X.env = (false, eval e X.env) :: starEach [] X.env := by exact starEach_ns rfl) (hline : (apos.endLine == cpos.line) = true := by rfl) :
    BC X E Γ (.Expr (.Call (.Attribute o "append" apos) [e] [] cpos) pos :: rest) Γs Γb f k := b_appX hX ho he hz hr hbase (hfew := hfew) (hst := hst) (hline := hline)
theorem c_pass {k : Co S T R} (hr : BC X E Γ rest Γs Γb f k) : BC X E Γ (.Pass pos :: rest) Γs Γb f k := fun F G0 σ G H D s gr post => w_cons ps_pass (hr F G0 σ G H D s gr post)
theorem c_brk {b : T} (h : Wk Γ (Γb b)) : BC X E Γ (.Break pos :: rest) Γs Γb f (.brk b) := fun F G0 σ G H D s gr post => w_cons ps_break (post σ G H (Evl.Ex.refl _) (s.wk h) gr)
end
/-! ### methods with arguments -/
section
variable {X : Cx} {E : XK} {Γ : List B} {pos p apos : Pos} {n m : Str} {lv : Nat} {A : Type} {enc : A → List AK} {pre : A → Prop} {res : A → Res} {e o : Expr} {es : List Expr} {ds : List (Str × D)} {args : List AK} {pl : Sem Bool}
theorem er_meth (a : A) (tk : Takes X (fun cls d _ H => E cls d H)) (hk : MethX X n m lv (spG X.K enc pre res)) (hr : Room lv X.A) (he : ED X Γ o (.ins n ds)) (ha : EA2 X Γ (e :: es) args) (henc : enc a = .d (.ins n ds) :: args) (hp : pre a) (hl : ds.lookup m = none)
    (ht : eval (.Call (.Attribute o m apos) (e :: es) [] pos) X.env = (do
      let ov ← eval o X.env
      standAt apos.atName
      let (f, first) ← holding [ov] (getMethod ov m pl)
      callWith pos f first (backTo pos (starEach (e :: es) X.env)) (backToKw pos (keywordEach [] X.env))) := by rfl)
    (hst : starEach (e :: es) X.env = (false, eval e X.env) :: starEach es X.env := by exact starEach_ns rfl) (hpl : (backTo pos (starEach es X.env)).any (·.1) = false := by exact plain_ok rfl) : ER X E Γ (.Call (.Attribute o m apos) (e :: es) [] pos) (res a) := by
  obtain ⟨C, f, fd, ps, hC, hM, hF, hB⟩ := hk.ex
  refine er_of (pe_meth (E := E) pe_w hC.cl hM hF hr hB .nil (passes_call tk fun _ _ _ _ h => h) pa_w hst hpl ht) fun F σ G H s Q q => he F σ G H s _ fun v G1 H1 g1 i1 => ?_
  have i0 := i1
  cases i1 with
  | @ins b C' dx _ xs _ h0 h1 h2 =>
    have e := hC.eq h0
    subst e
    refine ⟨b, dx, xs, rfl, g1.s _ _ h1, h2.no hl, ha F σ G1 H1 (s.grow g1) _ fun vs G2 H2 g2 i2 => ?_⟩
    rw [List.append_nil]
    exact ⟨a, G2, g2.s, by rw [henc]; exact .d (i0.up g2.g) i2, hp, PostR.grow (g1.trans g2) q⟩
theorem er_meth0G (a : A) (tk : Takes X (fun cls d _ H => E cls d H)) (hk : MethX X n m lv (spG X.K enc pre res)) (hr : Room lv X.A) (he : ED X Γ o (.ins n ds)) (henc : enc a = [.d (.ins n ds)]) (hp : pre a) (hl : ds.lookup m = none)
    (ht : eval (.Call (.Attribute o m apos) [] [] pos) X.env = (do
      let ov ← eval o X.env
      standAt apos.atName
      let (f, first) ← holding [ov] (getMethod ov m pl)
      callWith pos f first (backTo pos (starEach [] X.env)) (backToKw pos (keywordEach [] X.env))) := by rfl) : ER X E Γ (.Call (.Attribute o m apos) [] [] pos) (res a) := by
  obtain ⟨C, f, fd, ps, hC, hM, hF, hB⟩ := hk.ex
  exact er_of (pe_meth0 (E := E) pe_w hC.cl hM hF hr hB .nil (passes_call tk fun _ _ _ _ h => h) ht) (ev_meth0 (E' := E) hC he hl fun G H v ex i Q q => ⟨a, G, ex, by rw [henc]; exact .d i .nil, hp, q⟩)
end
/-! ### what comes to a value for certain -/
section
variable {X : Cx} {E : XK} {Γ : List B} {e : Expr} {τ : Type} {f : τ → Res} {r : Out τ}
theorem ed_okR {z : τ → D} (d : τ) (h : ∀ E, Takes X (fun cls d _ H => E cls d H) → ER X E Γ e (rsOf f r)) (hf : ∀ v, f v = .v (z v)) (hx : r.IsOk) : ED X Γ e (z (r.get d)) := fun F σ G H s Q q => by
  have k := h E0 (fun _ _ x => takes0 _ _ x) F σ G H s Q
  rw [rsOf_ok d hx, hf] at k
  exact k q
end
end Sd

namespace Sd
open PySem PySem.Spec PyProof.Rows L2
/-! ### None or a thing -/
def encO {τ : Type} (f : τ → D) : Option τ → D
  | none => .non
  | some x => f x
theorem encO_get {τ : Type} {f : τ → D} {v : Option τ} (d : τ) (h : v.isSome = true) : encO f v = f (v.getD d) := by
  cases v with
  | none => cases h
  | some x => rfl
/-- a dict by texts -/
def encKs {τ : Type} (f : τ → D) (kvs : List (List Nat × τ)) : List (Key × D) := kvs.map fun z => (.inr (S z.1), f z.2)
theorem eqT_opt {τ : Type} [DecidableEq τ] {n : Nat} {enc : τ → D} (h : EqT n enc) (hn : ∀ x, isNon (enc x) = false) : EqT n (encO enc) := ⟨fun a => by
  cases a with
  | none => cases n <;> rfl
  | some x => exact h.k x, fun a b => by
  have key : ∀ d : D, isNon d = false → (∃ x, d = enc x) → PyData.eqv .none (pyD d) = false ∧ PyData.eqv (pyD d) .none = false := fun d hd ⟨x, e⟩ => by
    have k := h.k x
    subst e
    generalize enc x = d at hd k
    cases d <;> first | exact ⟨rfl, rfl⟩ | (exfalso; cases hd; done) | (exfalso; cases n <;> cases k)
  cases a with
  | none =>
    cases b with
    | none => rfl
    | some y => exact (key _ (hn y) ⟨y, rfl⟩).1
  | some x =>
    cases b with
    | none => exact (key _ (hn x) ⟨x, rfl⟩).2
    | some y =>
      show eqD (enc x) (enc y) = _
      rw [h.eq]
      by_cases e : x = y
      · subst e
        simp
      · simp [e]⟩
theorem eqT_t1 {α : Type} [DecidableEq α] {n : Nat} {f : α → D} (h : EqT n f) : EqT (n + 1) (fun z : α => D.tup [f z]) := ⟨fun a => by
  show (eqk n (f a) && true) = true
  rw [h.k]
  rfl, fun a b => by
  show (PyData.eqv (pyD (f a)) (pyD (f b)) && true) = _
  rw [show PyData.eqv (pyD (f a)) (pyD (f b)) = _ from h.eq _ _, Bool.and_true]⟩
theorem eqT_t5 {α β γ δ ε : Type} [DecidableEq α] [DecidableEq β] [DecidableEq γ] [DecidableEq δ] [DecidableEq ε] {n : Nat} {f : α → D} {g : β → D} {u : γ → D} {v : δ → D} {w : ε → D} (h : EqT n f) (k : EqT n g) (l : EqT n u) (m : EqT n v) (o : EqT n w) :
    EqT (n + 1) (fun z : α × β × γ × δ × ε => D.tup [f z.1, g z.2.1, u z.2.2.1, v z.2.2.2.1, w z.2.2.2.2]) := ⟨fun a => by
  show (eqk n (f a.1) && (eqk n (g a.2.1) && (eqk n (u a.2.2.1) && (eqk n (v a.2.2.2.1) && (eqk n (w a.2.2.2.2) && true))))) = true
  rw [h.k, k.k, l.k, m.k, o.k]
  rfl, fun a b => by
  show (PyData.eqv (pyD (f a.1)) (pyD (f b.1)) && (PyData.eqv (pyD (g a.2.1)) (pyD (g b.2.1)) && (PyData.eqv (pyD (u a.2.2.1)) (pyD (u b.2.2.1)) && (PyData.eqv (pyD (v a.2.2.2.1)) (pyD (v b.2.2.2.1)) && (PyData.eqv (pyD (w a.2.2.2.2)) (pyD (w b.2.2.2.2)) && true))))) = _
  rw [show PyData.eqv (pyD (f a.1)) (pyD (f b.1)) = _ from h.eq _ _, show PyData.eqv (pyD (g a.2.1)) (pyD (g b.2.1)) = _ from k.eq _ _, show PyData.eqv (pyD (u a.2.2.1)) (pyD (u b.2.2.1)) = _ from l.eq _ _, show PyData.eqv (pyD (v a.2.2.2.1)) (pyD (v b.2.2.2.1)) = _ from m.eq _ _, show PyData.eqv (pyD (w a.2.2.2.2)) (pyD (w b.2.2.2.2)) = _ from o.eq _ _]
  obtain ⟨a1, a2, a3, a4, a5⟩ := a
  obtain ⟨b1, b2, b3, b4, b5⟩ := b
  simp only [Bool.and_true, Prod.mk.injEq, Bool.decide_and]⟩
def isI : D → Bool
  | .int _ => true
  | _ => false
def isS : D → Bool
  | .str _ => true
  | _ => false
def isB : D → Bool
  | .bl _ => true
  | _ => false
theorem asI_ok {d : D} (h : isI d = true) : d = .int (asI d) := by
  cases d <;> first | rfl | cases h
theorem asS_ok {d : D} (h : isS d = true) : d = .str (asS d) := by
  cases d <;> first | rfl | cases h
theorem asB_ok {d : D} (h : isB d = true) : d = .bl (asB d) := by
  cases d <;> first | rfl | cases h
section
variable {X : Cx} {x : D}
theorem od_isNO {τ : Type} {f : τ → D} (h : ∀ x, isNon (f x) = false) (v : Option τ) : OpD X (compareOp .Is) (encO f v) .non (.bl v.isNone) := by
  have e : isNon (encO f v) = v.isNone := by
    cases v with
    | none => rfl
    | some x => exact h x
  rw [← e]
  exact od_isN _
theorem od_notNO {τ : Type} {f : τ → D} (h : ∀ x, isNon (f x) = false) (v : Option τ) : OpD X (compareOp .IsNot) (encO f v) .non (.bl (!v.isNone)) := by
  have e : isNon (encO f v) = v.isNone := by
    cases v with
    | none => rfl
    | some x => exact h x
  rw [← e]
  exact od_notN _
theorem od_isB (i j : Bool) : OpD X (compareOp .Is) (.bl i) (.bl j) (.bl (decide (i = j))) := ⟨_, op_is_bl, fun v w G H e iv iw Q q => by
  cases iv
  cases iw
  exact ⟨_, _, rfl, rfl, q _ G H (.refl e) (.bl _)⟩⟩
theorem od_isNotB (i j : Bool) : OpD X (compareOp .IsNot) (.bl i) (.bl j) (.bl (!decide (i = j))) := ⟨_, op_isnot_bl, fun v w G H e iv iw Q q => by
  cases iv
  cases iw
  exact ⟨_, _, rfl, rfl, q _ G H (.refl e) (.bl _)⟩⟩
theorem od_inS1 {i : List Nat} (h : i.length = 1) (j : List Nat) : OpD X (compareOp .In) (.str i) (.str j) (.bl (decide (i.headD 0 ∈ j))) := by
  match i, h with
  | [c], _ => exact od_inS c j
theorem od_notInS1 {i : List Nat} (h : i.length = 1) (j : List Nat) : OpD X (compareOp .NotIn) (.str i) (.str j) (.bl (!decide (i.headD 0 ∈ j))) := by
  match i, h with
  | [c], _ => exact od_notInS c j
end
section
variable {X : Cx} {E : XK} {Γ : List B} {pos p : Pos} {a b e : Expr} {es : List Expr} {x : D} {ds : List D} {τ : Type} {f : τ → Res} {r : Out τ}
theorem ed_lenTk (i : Int) (hg : Gl X "len") (hm : X.mg "len" = none) (ha : ED X Γ a (.tup ds)) (h : (ds.length : Int) = i) (he : starEach [a] X.env = (false, eval a X.env) :: starEach [] X.env := by exact starEach_ns rfl) (hpl : (backTo pos (starEach [] X.env)).any (·.1) = false := by exact plain_ok rfl) : ED X Γ (.Call (.Name "len" p) [a] [] pos) (.int i) := by
  rw [← h]
  exact ed_lenT hg hm ha he hpl
theorem eo_okR {z : τ → OO} (d : τ) (h : ∀ E, Takes X (fun cls d _ H => E cls d H) → ER X E Γ e (rsOf f r)) (hf : ∀ v, f v = .o (z v)) (hx : r.IsOk) : EO X Γ e (z (r.get d)) := fun F σ G H s Q q => by
  have k := h E0 (fun _ _ x => takes0 _ _ x) F σ G H s Q
  rw [rsOf_ok d hx, hf] at k
  exact k q
/-- an own list, asked for its kind -/
theorem ed_isiL {n : String} {rr : Bool} (hg : Gl X "isinstance") (hm : X.mg "isinstance" = none) (ha : EL X Γ a ds) (hb : ED X Γ b (.ty n)) (hk : kitB "list" n = some rr) (he : starEach [a, b] X.env = (false, eval a X.env) :: starEach [b] X.env := by exact starEach_ns rfl) (he2 : starEach [b] X.env = (false, eval b X.env) :: starEach [] X.env := by exact starEach_ns rfl)
    (hpl : (backTo pos (starEach [b] X.env)).any (·.1) = false := by exact plain_ok rfl) : ED X Γ (.Call (.Name "isinstance" p) [a, b] [] pos) (.bl rr) :=
  ed_of (pe_callB call_isi hg hm (by decide +kernel) (pa_cons pe_w (pa_cons pe_w pa_nil he2) he) (by decide) (by decide) he hpl) fun F σ G H s Q q => ha F σ G H s _ fun pp vs G1 H1 g1 h1 i1 => hb F σ G1 H1 (s.grow g1) _ fun w G2 H2 g2 i2 => by
    cases i2
    exact ⟨_, _, _, _, rr, rfl, .ty n, .base (.lst (g2.h _ _ h1)), kit_ty hk, q _ G2 H2 (g1.trans g2) (.bl rr)⟩
end
end Sd

namespace Sd
open PySem PySem.Spec PyProof.Rows L2
/-! ### what may raise, told with the slots -/
abbrev PsAt (X : Cx) (E : L2.St → XK) : Prop := ∀ σ, PassesAt (L2.CX X.prog X.w) X σ (E σ)
theorem XCm.pass {X : Cx} {E : XK} (h : XCm X E) : PsAt X (fun _ => E) := fun σ => passAt (W := fun cls d _ H => E cls d H) h.takes σ
theorem ps0 (X : Cx) : PsAt X (fun _ => E0) := fun σ => passAt (W := fun cls d _ H => E0 cls d H) (fun _ _ x => takes0 _ _ x) σ
section
variable {X : Cx} {E : L2.St → XK} {Γ : List B} {pos p apos : Pos} {x n m : Str} {lv : Nat} {A : Type} {enc : A → List AK} {pre : A → Prop} {res : A → Res} {e o : Expr} {es : List Expr} {ds : List (Str × D)} {args : List AK} {pl : Sem Bool} {r : Res}
theorem es_of {t : TE} (h : PE X e t) (k : EvRs X.K E Γ t r) : ERs X E Γ e r := fun F σ G H s Q q => ⟨fun pins sh I => h.run pins sh σ H Q I (k F σ G H s Q q)⟩
theorem es_call (a : A) (tk : PsAt X E) (hk : KnX X x lv (spG X.K enc pre res)) (hr : Room lv X.A) (hg : Gl X x) (ha : EA2 X Γ (e :: es) (enc a)) (hp : pre a)
    (hdb : (x == ("__debug__" : Str)) = false := by decide) (he : starEach (e :: es) X.env = (false, eval e X.env) :: starEach es X.env := by exact starEach_ns rfl) (hpl : (backTo pos (starEach es X.env)).any (·.1) = false := by exact plain_ok rfl) : ERs X E Γ (.Call (.Name x p) (e :: es) [] pos) (res a) := by
  obtain ⟨f, fd, ps, h1, h2, h3, h4⟩ := hk.ex
  exact es_of (pe_callS (E := E) h1 hr hg h2 h3 h4 tk pa_w hdb he hpl) fun F σ G H s Q q => ha F σ G H s _ fun vs G1 H1 g1 i1 => ⟨a, G1, g1.s, i1, hp, PostR.grow g1 q⟩
theorem es_call0 (a : A) (tk : PsAt X E) (hk : KnX X x lv (spG X.K enc pre res)) (hr : Room lv X.A) (hg : Gl X x) (ha : enc a = []) (hp : pre a) (hdb : (x == ("__debug__" : Str)) = false := by decide) : ERs X E Γ (.Call (.Name x p) [] [] pos) (res a) := by
  obtain ⟨f, fd, ps, h1, h2, h3, h4⟩ := hk.ex
  intro F σ G H s Q q
  refine ⟨fun pins sh I => ?_⟩
  refine wpAny_Call_Name_kw (ld_glob I hg h2 ?_ hdb)
  exact PySem.W.callWith_K0 I.kIn h3 (run_fnS (us := []) h1 hr h4 (tk σ) I .nil ⟨a, G, s.sub, by rw [ha]; exact .nil, hp, q⟩)
def tMethT (C : Addr) (m : Str) (sp : Sp) (E : L2.St → XK) (ta : TE) (t : TA) : TE := fun σ H Q => ta σ H fun x H1 => ∃ a dx fs, x = .ref a ∧ H1 a = some (.ins C dx fs) ∧ fs.lookup m = none ∧ t σ H1 fun vs H2 => sp (x :: vs) H2 Q (E σ)
theorem pe_methT {C f : Addr} {fd : FuncData} {ps : List Str} {sp : Sp} {ta : TE} {t : TA} (he : PE X o ta) (c : Cls X.K C) (hm : Meth X.K C m f) (F : FnOk X.prog X.w X.K X.mg X.base (L2.CX X.prog X.w) lv f fd ps sp) (hr : Room lv X.A) (hb : Binds X.K fd ps []) (hx : PsAt X E) (ha : PA X (e :: es) t)
    (hst : starEach (e :: es) X.env = (false, eval e X.env) :: starEach es X.env) (hpl : (backTo pos (starEach es X.env)).any (·.1) = false)
    (ht : eval (.Call (.Attribute o m apos) (e :: es) [] pos) X.env = (do
      let ov ← eval o X.env
      standAt apos.atName
      let (f, first) ← holding [ov] (getMethod ov m pl)
      callWith pos f first (backTo pos (starEach (e :: es) X.env)) (backToKw pos (keywordEach [] X.env)))) : PE X (.Call (.Attribute o m apos) (e :: es) [] pos) (tMethT C m sp E ta t) := by
  refine ⟨fun pins s σ H Q I h => PySem.W.methodCall_KW (pl := pl) (thn (he.run pins s σ H _ I h) fun u s1 ⟨x, H1, I1, rx, a, dx, fs, ex, ea, l, q⟩ => ?_) ht⟩
  subst ex
  obtain rfl : u = Value.ref a := rx
  exact getmeth_ok I1 ea c hm l (PySem.W.callWith_K (first := [.ref a]) (h₀ := X.base) I.ok.mod.kin hm.kp (thn (ha.run pos pins s1 σ H1 _ I1 q) fun us s2 ⟨vs, H2, I2, r, q2⟩ => ⟨I2.kIn, run_fnS (us := .ref a :: us) (vs := .ref a :: vs) F hr hb (hx σ) I2 (.cons rfl r) q2⟩) hst hpl)
theorem pe_methT0 {C f : Addr} {fd : FuncData} {ps : List Str} {sp : Sp} {ta : TE} (he : PE X o ta) (c : Cls X.K C) (hm : Meth X.K C m f) (F : FnOk X.prog X.w X.K X.mg X.base (L2.CX X.prog X.w) lv f fd ps sp) (hr : Room lv X.A) (hb : Binds X.K fd ps []) (hx : PsAt X E)
    (ht : eval (.Call (.Attribute o m apos) [] [] pos) X.env = (do
      let ov ← eval o X.env
      standAt apos.atName
      let (f, first) ← holding [ov] (getMethod ov m pl)
      callWith pos f first (backTo pos (starEach [] X.env)) (backToKw pos (keywordEach [] X.env)))) : PE X (.Call (.Attribute o m apos) [] [] pos) (tMethT C m sp E ta tNil) := by
  refine ⟨fun pins s σ H Q I h => PySem.W.methodCall_KW (pl := pl) (thn (he.run pins s σ H _ I h) fun u s1 ⟨x, H1, I1, rx, a, dx, fs, ex, ea, l, q⟩ => ?_) ht⟩
  subst ex
  obtain rfl : u = Value.ref a := rx
  exact getmeth_ok I1 ea c hm l (PySem.W.callWith_K0 (first := [.ref a]) I1.kIn hm.kp (run_fnS (us := [.ref a]) (vs := [.ref a]) F hr hb (hx σ) I1 (.cons rfl .nil) q))
theorem es_meth (a : A) (tk : PsAt X E) (hk : MethX X n m lv (spG X.K enc pre res)) (hr : Room lv X.A) (he : ED X Γ o (.ins n ds)) (ha : EA2 X Γ (e :: es) args) (henc : enc a = .d (.ins n ds) :: args) (hp : pre a) (hl : ds.lookup m = none)
    (ht : eval (.Call (.Attribute o m apos) (e :: es) [] pos) X.env = (do
      let ov ← eval o X.env
      standAt apos.atName
      let (f, first) ← holding [ov] (getMethod ov m pl)
      callWith pos f first (backTo pos (starEach (e :: es) X.env)) (backToKw pos (keywordEach [] X.env))) := by rfl)
    (hst : starEach (e :: es) X.env = (false, eval e X.env) :: starEach es X.env := by exact starEach_ns rfl) (hpl : (backTo pos (starEach es X.env)).any (·.1) = false := by exact plain_ok rfl) : ERs X E Γ (.Call (.Attribute o m apos) (e :: es) [] pos) (res a) := by
  obtain ⟨C, f, fd, ps, hC, hM, hF, hB⟩ := hk.ex
  refine es_of (pe_methT (E := E) pe_w hC.cl hM hF hr hB tk pa_w hst hpl ht) fun F σ G H s Q q => he F σ G H s _ fun v G1 H1 g1 i1 => ?_
  have i0 := i1
  cases i1 with
  | @ins b C' dx _ xs _ h0 h1 h2 =>
    have e := hC.eq h0
    subst e
    exact ⟨b, dx, xs, rfl, g1.s _ _ h1, h2.no hl, ha F σ G1 H1 (s.grow g1) _ fun vs G2 H2 g2 i2 => ⟨a, G2, g2.s, by rw [henc]; exact .d (i0.up g2.g) i2, hp, PostR.grow (g1.trans g2) q⟩⟩
theorem es_meth0 (a : A) (tk : PsAt X E) (hk : MethX X n m lv (spG X.K enc pre res)) (hr : Room lv X.A) (he : ED X Γ o (.ins n ds)) (henc : enc a = [.d (.ins n ds)]) (hp : pre a) (hl : ds.lookup m = none)
    (ht : eval (.Call (.Attribute o m apos) [] [] pos) X.env = (do
      let ov ← eval o X.env
      standAt apos.atName
      let (f, first) ← holding [ov] (getMethod ov m pl)
      callWith pos f first (backTo pos (starEach [] X.env)) (backToKw pos (keywordEach [] X.env))) := by rfl) : ERs X E Γ (.Call (.Attribute o m apos) [] [] pos) (res a) := by
  obtain ⟨C, f, fd, ps, hC, hM, hF, hB⟩ := hk.ex
  refine es_of (pe_methT0 (E := E) pe_w hC.cl hM hF hr hB tk ht) fun F σ G H s Q q => he F σ G H s _ fun v G1 H1 g1 i1 => ?_
  have i0 := i1
  cases i1 with
  | @ins b C' dx _ xs _ h0 h1 h2 =>
    have e := hC.eq h0
    subst e
    exact ⟨b, dx, xs, rfl, g1.s _ _ h1, h2.no hl, a, G1, g1.s, by rw [henc]; exact .d i0 .nil, hp, PostR.grow g1 q⟩
end
section
variable {X : Cx} {Γ : List B} {e : Expr} {τ : Type} {f : τ → Res} {r : Out τ}
/-- what comes to a value for certain -/
theorem ed_okS {z : τ → D} (d : τ) (h : ∀ E, PsAt X E → ERs X E Γ e (rsOf f r)) (hf : ∀ v, f v = .v (z v)) (hx : r.IsOk) : ED X Γ e (z (r.get d)) := fun F σ G H s Q q => by
  have k := h (fun _ => E0) (ps0 X) F σ G H s Q
  rw [rsOf_ok d hx, hf] at k
  exact k q
theorem eo_okS {z : τ → OO} (d : τ) (h : ∀ E, PsAt X E → ERs X E Γ e (rsOf f r)) (hf : ∀ v, f v = .o (z v)) (hx : r.IsOk) : EO X Γ e (z (r.get d)) := fun F σ G H s Q q => by
  have k := h (fun _ => E0) (ps0 X) F σ G H s Q
  rw [rsOf_ok d hx, hf] at k
  exact k q
end
/-! ### try: one statement, except X: suite -/
def tryO {τ S T R : Type} (r : Out τ) (m : Str → Option Bool) (k1 : τ → Co S T R) (k2 : Exn → Co S T R) : Co S T R := match r with
  | .ok v => k1 v
  | .err e => match m e.cls with
    | some true => k2 e
    | some false => .ret (.err e)
    | none => .ret .stk
  | .stk => .ret .stk
/-- a suite that raises is not told of -/
def Co.ne {S T R : Type} : Co S T R → Co S T R
  | .ret (.err _) => .ret .stk
  | c => c
theorem post_ne {S T R : Type} {K : PySem.W.Frag} {F G0 G : Hp} {E : XK} {D : Ends} {Γs : S → List B} {Γb : T → List B} {f : R → Res} {k : Co S T R} (hf : ∀ v, (∃ z, f v = .v z) ∨ ∃ z, f v = .o z) (h : PostC K F G0 G E D Γs Γb (k.ne.ctl f)) : PostC K F G0 G E0 D Γs Γb (k.ctl f) := by
  cases k with
  | go s => exact h
  | brk b => exact h
  | ret o =>
    cases o with
    | ok v =>
      have h' : PostR K F G0 E D.rt (f v) := h
      show PostR K F G0 E0 D.rt (f v)
      rcases hf v with ⟨z, e⟩ | ⟨z, e⟩ <;> rw [e] at h' ⊢ <;> exact h'
    | err e => exact (show False from h).elim
    | stk => exact h
/-- what an except clause says of the classes of the table m -/
structure ExH (K : PySem.W.Frag) (mg : Str → Option Value) (x : Str) (m : Str → Option Bool) : Prop where
  ex : ∃ c, mg x = some c ∧ ∀ n b cls, m n = some b → PySem.W.nsIn K mainGlobals n = some (some cls) → PySem.W.exmOne K cls c = some b
section
variable {X : Cx} {E : XK} {Γ : List B} {S T R : Type} {Γs : S → List B} {Γb : T → List B} {f : R → Res} {rest : List Stmt} {pos np pos' bpos : Pos} {lv : Nat} {N : List Str} {sc : Scope} {hx y : Str} {py : Pos} {e : Expr} {suite : List Stmt} {b₀ : Stmt} {m : Str → Option Bool}
theorem XOk.tr (h : XOk lv N sc X) (pn : List (Addr × Obj)) (xe : Value → Shared → Prop) : XOk lv N sc (X.tr pn xe) := ⟨h.room, h.fn, h.hN, h.hsc, h.nd, h.kd, h.stk, h.frm⟩
theorem XOk.su (h : XOk lv N sc X) (a : Addr) (pn : List (Addr × Obj)) : XOk lv N sc (X.suite a pn) := ⟨⟨h.room.dp, h.room.un⟩, h.fn, h.hN, h.hsc, h.nd, h.kd, h.stk, h.frm⟩
theorem c_tryA {S' τ : Type} {Γj : S' → List B} (i : Nat) (enc : τ → D) {r : Out τ} {s1 : τ → S'} {k2 : Exn → Co S' T R} {kr : S' → Co S T R} (hM : XCm X E) (hX : XOk lv N sc X) (hn : N[i]? = some y) (hl : Loc sc y) (hc : ExH X.K X.mg hx m) (hg : Gl X hx)
    (he : ∀ (W : WX) pn xe, PsAt (X.tr pn xe) (L2.WE W) → ERs (X.tr pn xe) (L2.WE W) Γ e (rsOf (fun v => .v (enc v)) r)) (h1 : ∀ v, Wk (Γ.set i (.d (enc v))) (Γj (s1 v)))
    (h2 : ∀ x a oe pn, XOk lv N sc (X.suite a ((a, oe) :: pn)) → BC (X.suite a ((a, oe) :: pn)) E0 Γ (b₀ :: suite) Γj Γb f (k2 x)) (hr : ∀ s', BC X E (Γj s') rest Γs Γb f (kr s')) (hf : ∀ v, (∃ z, f v = .v z) ∨ ∃ z, f v = .o z := by exact fun _ => by first | exact .inl ⟨_, rfl⟩ | exact .inr ⟨_, rfl⟩)
    (hs : ∀ pn xe, swapsWith e (some (.Name y py)) bpos.line (X.tr pn xe).env = pure false := by exact fun _ _ => sw_ns rfl) (hdb : (hx == ("__debug__" : Str)) = false := by decide) :
    BC X E Γ (.Try [.Assign [.Name y py] e bpos] [.ExceptHandler (some (.Name hx np)) none (b₀ :: suite) pos'] [] [] pos :: rest) Γs Γb f ((tryO r m (fun v => .go (s1 v)) fun x => (k2 x).ne).bind kr) := by
  show BK _ _ _ _ _ _ (Co.ctl f ((tryO r m (fun v => .go (s1 v)) fun x => (k2 x).ne).bind kr))
  rw [ctl_bind]
  refine b_seq (Γj := Γj) (fun F G0 σ G H D s gr post => ?_) fun s' _ => hr s'
  obtain ⟨c, h3, h4⟩ := hc.ex
  refine ⟨_, ps_try_only (c := c) (ts := fun a cls d D σ H => ∀ oe pn, wS (X.suite a ((a, oe) :: pn)) (b₀ :: suite) D σ H) (tb := fun W D σ H => ∀ pn xe, Takes (X.tr pn xe) W → wS (X.tr pn xe) [.Assign [.Name y py] e bpos] D σ H) hX.stk hX.frm ⟨hg, hdb, .inl h3⟩ hM.takes
    (fun W pn xe tk _ => ⟨fun pins sh σ H D I h => (h pn xe tk).run pins sh I⟩) (fun a oe cls d pn _ _ => ⟨fun pins sh σ H D I h => (h oe pn).run pins sh I⟩), ?_⟩
  intro pn xe tk
  have hX' := hX.tr pn xe
  refine w_cons (ps_set hX'.nd (hX'.nm hn) (hX'.lc hl) pe_w (hs pn xe) (.inl (hX'.fn y))) (he _ pn xe (fun σ => passAt tk σ) F σ G H s _ ?_)
  cases r with
  | stk => exact (show False from post).elim
  | ok v =>
    have p : ∀ σ' G' H', Ex G G' → Stt X.K F (Γj (s1 v)) σ' G' H' → Grow G0 F G' H' → D.nx σ' H' := post
    exact fun w G1 H1 g1 i1 => w_nil (p _ G1 H1 g1.g (((s.grow g1).set i i1).wk (h1 v)) (gr.trans g1))
  | err x =>
    intro cls d G1 H1 g1 hi
    have post' : PostC X.K F G0 G E D Γj Γb (Co.ctl f (match m x.cls with | some true => (k2 x).ne | some false => .ret (.err x) | none => .ret .stk)) := post
    cases hm : m x.cls with
    | none =>
      rw [hm] at post'
      exact (show False from post').elim
    | some b =>
      rw [hm] at post'
      refine ⟨b, h4 _ _ _ hm hi.1, fun hb a na oe pn2 => ?_, fun hb => ?_⟩
      · subst hb
        exact h2 x a oe pn2 (hX.su a _) F G0 σ G1 H1 D (s.grow g1) (gr.trans g1) (PostC.up (post_ne hf post') g1.g)
      · subst hb
        exact (show PostR X.K F G0 E D.rt (.x x) from post') cls d G1 H1 (gr.trans g1) hi
/-- try: e; except X: suite -/
theorem c_tryE {S' τ : Type} {Γj : S' → List B} {res : τ → Res} {r : Out τ} {s1 : S'} {k2 : Exn → Co S' T R} {kr : S' → Co S T R} (hM : XCm X E) (hX : XOk lv N sc X) (hc : ExH X.K X.mg hx m) (hg : Gl X hx)
    (he : ∀ (W : WX) pn xe, PsAt (X.tr pn xe) (L2.WE W) → ERs (X.tr pn xe) (L2.WE W) Γ e (rsOf res r)) (h1 : Wk Γ (Γj s1))
    (h2 : ∀ x a oe pn, XOk lv N sc (X.suite a ((a, oe) :: pn)) → BC (X.suite a ((a, oe) :: pn)) E0 Γ (b₀ :: suite) Γj Γb f (k2 x)) (hr : ∀ s', BC X E (Γj s') rest Γs Γb f (kr s')) (hf : ∀ v, (∃ z, f v = .v z) ∨ ∃ z, f v = .o z := by exact fun _ => by first | exact .inl ⟨_, rfl⟩ | exact .inr ⟨_, rfl⟩)
    (hres : ∀ v, (∃ z, res v = .v z) ∨ ∃ z, res v = .o z := by exact fun _ => by first | exact .inl ⟨_, rfl⟩ | exact .inr ⟨_, rfl⟩)
    (hs : ∀ pn xe, swapsWith e none bpos.line (X.tr pn xe).env = pure false := by exact fun _ _ => sw_ns rfl) (hdb : (hx == ("__debug__" : Str)) = false := by decide) :
    BC X E Γ (.Try [.Expr e bpos] [.ExceptHandler (some (.Name hx np)) none (b₀ :: suite) pos'] [] [] pos :: rest) Γs Γb f ((tryO r m (fun _ => .go s1) fun x => (k2 x).ne).bind kr) := by
  show BK _ _ _ _ _ _ (Co.ctl f ((tryO r m (fun _ => .go s1) fun x => (k2 x).ne).bind kr))
  rw [ctl_bind]
  refine b_seq (Γj := Γj) (fun F G0 σ G H D s gr post => ?_) fun s' _ => hr s'
  obtain ⟨c, h3, h4⟩ := hc.ex
  refine ⟨_, ps_try_only (c := c) (ts := fun a cls d D σ H => ∀ oe pn, wS (X.suite a ((a, oe) :: pn)) (b₀ :: suite) D σ H) (tb := fun W D σ H => ∀ pn xe, Takes (X.tr pn xe) W → wS (X.tr pn xe) [.Expr e bpos] D σ H) hX.stk hX.frm ⟨hg, hdb, .inl h3⟩ hM.takes
    (fun W pn xe tk _ => ⟨fun pins sh σ H D I h => (h pn xe tk).run pins sh I⟩) (fun a oe cls d pn _ _ => ⟨fun pins sh σ H D I h => (h oe pn).run pins sh I⟩), ?_⟩
  intro pn xe tk
  have hX' := hX.tr pn xe
  refine w_cons (ps_expr pe_w (hs pn xe)) (he _ pn xe (fun σ => passAt tk σ) F σ G H s _ ?_)
  cases r with
  | stk => exact (show False from post).elim
  | ok v =>
    have p : ∀ σ' G' H', Ex G G' → Stt X.K F (Γj s1) σ' G' H' → Grow G0 F G' H' → D.nx σ' H' := post
    show PostR _ _ _ _ _ (res v)
    rcases hres v with ⟨z, e⟩ | ⟨z, e⟩
    · rw [e]
      exact fun w G1 H1 g1 i1 => w_nil (p _ G1 H1 g1.g ((s.grow g1).wk h1) (gr.trans g1))
    · rw [e]
      exact fun q u G1 H1 g1 _ _ _ _ => w_nil (p _ G1 H1 g1.g ((s.grow g1).wk h1) (gr.trans g1))
  | err x =>
    intro cls d G1 H1 g1 hi
    have post' : PostC X.K F G0 G E D Γj Γb (Co.ctl f (match m x.cls with | some true => (k2 x).ne | some false => .ret (.err x) | none => .ret .stk)) := post
    cases hm : m x.cls with
    | none =>
      rw [hm] at post'
      exact (show False from post').elim
    | some b =>
      rw [hm] at post'
      refine ⟨b, h4 _ _ _ hm hi.1, fun hb a na oe pn2 => ?_, fun hb => ?_⟩
      · subst hb
        exact h2 x a oe pn2 (hX.su a _) F G0 σ G1 H1 D (s.grow g1) (gr.trans g1) (PostC.up (post_ne hf post') g1.g)
      · subst hb
        exact (show PostR X.K F G0 E D.rt (.x x) from post') cls d G1 H1 (gr.trans g1) hi
end
/-! ### C(e) where e may raise -/
section
variable {X : Cx} {E : L2.St → XK} {Γ : List B} {pos p : Pos} {n : Str} {lv : Nat} {A τ : Type} {enc : A → List AK} {pre : A → Prop} {flds : A → List (Str × D)} {e : Expr} {f : τ → Res} {r : Out τ}
theorem es_make1 (a : τ → A) (hk : MkX X n lv (spJ X.K n enc pre flds)) (hr : Room (lv + 1) X.A) (hg : Gl X n) (he : ERs X E Γ e (rsOf f r)) (hp : ∀ v, pre (a v)) (hf : ∀ v, (∃ z, f v = .v z ∧ enc (a v) = [.d z]) ∨ ∃ ds, f v = .o (.lst ds) ∧ enc (a v) = [.l ds])
    (hdb : (n == ("__debug__" : Str)) = false := by decide) (hst : starEach [e] X.env = (false, eval e X.env) :: starEach [] X.env := by exact starEach_ns rfl) (hpl : (backTo pos (starEach [] X.env)).any (·.1) = false := by exact plain_ok rfl) :
    ERs X E Γ (.Call (.Name n p) [e] [] pos) (rsOf (fun v => .v (.ins n (flds (a v)))) r) := by
  obtain ⟨C, fa, fd, ps, h1, hC, hM, hF, hB⟩ := hk.ex
  refine es_of (pe_make (E := E0) hM hF hr hg h1 hB .nil passL pa_w hdb hst hpl) fun F σ G H s Q q => ?_
  have wa : ∀ Q2 : List V → Hp → Prop, wE X e σ H (fun v H1 => Q2 [v] H1) → wA X [e] σ H Q2 := fun Q2 h => ⟨fun pos pins sh I => (pa_cons pe_w pa_nil hst).run pos pins sh σ H Q2 I h⟩
  refine wa _ ?_
  refine he F σ G H s _ ?_
  cases r with
  | stk => exact (show False from q).elim
  | err x => exact q
  | ok v =>
    have q' : ∀ w G' H', Grow G H G' H' → Is X.K G' w (.ins n (flds (a v))) → Q w H' := q
    -- the making, from the argument's place on
    have key : ∀ (u : V) G1 H1, Grow G H G1 H1 → (∀ b o, H1 b = some o → True) → IsAs X.K G1 H1 [u] (enc (a v)) → ∀ x dx, H1 x = none → H1 dx = none → dx ≠ x →
        spJ X.K n enc pre flds (.ref x :: ([u] ++ [])) (upd (upd H1 dx (.own x)) x (.ins C dx [])) (fun v H2 => v = .non ∧ Q (.ref x) H2) E0 := fun u G1 H1 g1 _ i1 x dx hx hdx hne => by
      rw [List.append_nil]
      have gx : G1 x = none := Evl.fresh_back g1.s hx
      have gdx : G1 dx = none := Evl.fresh_back g1.s hdx
      have up : ∀ b o, H1 b = some o → (upd (upd H1 dx (.own x)) x (.ins C dx [])) b = some o := fun b o eb => by
        rw [upd_ne (ne_of_none eb hx), upd_ne (ne_of_none eb hdx)]
        exact eb
      have ex1 : Ex G1 (upd (upd H1 dx (.own x)) x (.ins C dx [])) := fun b o eb => up b o (g1.s b o eb)
      have i2 : IsAs X.K G1 (upd (upd H1 dx (.own x)) x (.ins C dx [])) [u] (enc (a v)) := by
        generalize [u] = us at i1 ⊢
        generalize enc (a v) = as at i1
        induction i1 with
        | nil => exact .nil
        | d h _ ih => exact .d h ih
        | l h1 h2 _ ih => exact .l (up _ _ h1) h2 ih
      refine ⟨x, dx, C, [u], a v, G1, rfl, hC, upd_same, gx, ex1, i2, hp v, fun G' H' xs g hx' gx' hi => ⟨rfl, ?_⟩⟩
      have hH : Ex H1 H' := fun b o eb => by
        have hb : b ≠ x := ne_of_none eb hx
        have hb2 : b ≠ dx := ne_of_none eb hdx
        have z := g.h b o (by rw [dl_ne hb, upd_ne hb, upd_ne hb2]; exact eb)
        rw [dl_ne hb] at z
        exact z
      have gs : Ex G' H' := fun b o eb => by
        have hb : b ≠ x := ne_of_none eb gx'
        have z := g.s b o eb
        rw [dl_ne hb] at z
        exact z
      have g2 : Grow G1 H1 G' H' := ⟨g.g, hH, gs, fun b o eb mb => by
        have hb : b ≠ x := ne_of_none eb hx
        have hb2 : b ≠ dx := ne_of_none eb hdx
        exact g.f b o (by rw [dl_ne hb, upd_ne hb, upd_ne hb2]; exact eb) mb⟩
      exact q' (.ref x) (upd G' x (.ins C dx xs)) H' (g1.trans (g2.frz hx hx' gx')) (.ins hC.nm upd_same (IsFs.mono (Evl.Ex.new gx') _ _ hi))
    show PostR _ _ _ _ _ (f v)
    rcases hf v with ⟨z, e1, e2⟩ | ⟨ds, e1, e2⟩
    · rw [e1]
      exact fun u G1 H1 g1 i1 => key u G1 H1 g1 (fun _ _ _ => trivial) (by rw [e2]; exact .d i1 .nil)
    · rw [e1]
      intro p u G1 H1 g1 hp1 hn1 hn2 ho
      obtain ⟨vs, rfl, ha⟩ := ho.lst
      exact key (.ref p) G1 H1 g1 (fun _ _ _ => trivial) (by rw [e2]; exact .l hp1 ha .nil)
def mapO {α β : Type} (g : α → β) : Out α → Out β
  | .ok v => .ok (g v)
  | .err e => .err e
  | .stk => .stk
theorem es_makeM {β : Type} {F : β → Res} {g : τ → β} (a : τ → A) (hk : MkX X n lv (spJ X.K n enc pre flds)) (hr : Room (lv + 1) X.A) (hg : Gl X n) (he : ERs X E Γ e (rsOf f r)) (hp : ∀ v, pre (a v)) (hf : ∀ v, (∃ z, f v = .v z ∧ enc (a v) = [.d z]) ∨ ∃ ds, f v = .o (.lst ds) ∧ enc (a v) = [.l ds])
    (hF : ∀ v, F (g v) = .v (.ins n (flds (a v))) := by exact fun _ => rfl) (hdb : (n == ("__debug__" : Str)) = false := by decide) (hst : starEach [e] X.env = (false, eval e X.env) :: starEach [] X.env := by exact starEach_ns rfl) (hpl : (backTo pos (starEach [] X.env)).any (·.1) = false := by exact plain_ok rfl) :
    ERs X E Γ (.Call (.Name n p) [e] [] pos) (rsOf F (mapO g r)) := by
  have k := es_make1 (pos := pos) (p := p) a hk hr hg he hp hf hdb hst hpl
  have q : rsOf (fun v => .v (.ins n (flds (a v)))) r = rsOf F (mapO g r) := by
    cases r with
    | ok v => exact (hF v).symm
    | err e => rfl
    | stk => rfl
  rw [q] at k
  exact k
end
end Sd

namespace Sd
open PySem PySem.Spec PyProof.Rows L2
/-! ### exceptions with fields: their __init__ -/
/-- an own class of exceptions by its name -/
structure ClsX (K : PySem.W.Frag) (n : Str) (C : Addr) : Prop where
  nm : PySem.W.nsIn K mainGlobals n = some (some (.ref C))
  ox : OexC K C
theorem ClsX.eq {K : PySem.W.Frag} {n : Str} {C C' : Addr} (h : ClsX K n C) (e : PySem.W.nsIn K mainGlobals n = some (some (.ref C'))) : C' = C := by
  rw [h.nm] at e
  cases e
  rfl
/-- the class's instances have no attribute of that name by the class -/
structure FldX (K : PySem.W.Frag) (n f : Str) : Prop where
  ex : ∃ C, ClsX K n C ∧ PySem.W.findIn K (.ref C) f = some none
theorem FldX.no {K : PySem.W.Frag} {n f : Str} {C : Addr} (h : FldX K n f) (hC : ClsX K n C) : PySem.W.findIn K (.ref C) f = some none := by
  obtain ⟨C', h1, h2⟩ := h.ex
  have e := hC.eq h1.nm
  subst e
  exact h2
/-- the class above, whose __init__ is called: ValueError's -/
structure InitB (K : PySem.W.Frag) (mg : Str → Option Value) (b : Str) : Prop where
  ex : ∃ (C : Addr) (mc : Value), mg b = some (.ref C) ∧ PySem.W.readsIn K C mc = true ∧ PySem.W.specialIn K (.ref C) "__getattribute__" = some (some (.builtin "type.__getattribute__")) ∧ PySem.W.findCls K (.ref C) mc "__init__" = some (.val (.builtin "ValueError.__init__"))
def xl (H : Hp) (x : Addr) (d : Option Addr) : Hp := fun b => if b = x ∨ d = some b then none else H b
theorem xl_ne {H : Hp} {x b : Addr} {d : Option Addr} (h : b ≠ x) (h' : d ≠ some b) : xl H x d b = H b := if_neg fun z => z.elim h h'
theorem xl_x {H : Hp} {x : Addr} {d : Option Addr} : xl H x d x = none := if_pos (.inl rfl)
theorem xl_d {H : Hp} {x b : Addr} : xl H x (some b) b = none := if_pos (.inr rfl)
/-- __init__ of the exception at x, before it has its dict -/
def XI0 (X : Cx) (x C : Addr) (Γ : List B) (sts : List Stmt) (fs' : List (Str × D)) : Prop :=
  ∀ F σ G H (D : Ends), Stt X.K F Γ σ G H → σ[0]? = some (some (.ref x)) → F x = none → H x = some (exo x C none) → G x = none → (∀ (j : Nat) (o : OO), Γ[j]? ≠ some (B.own o)) →
    (∀ G' H' p vs, Grow G (xl H x none) G' (xl H' x (some p)) → H p = none → H' x = some (exo x C (some p)) → H' p = some (exd p vs) → p ≠ x → G' x = none → G' p = none → IsFs X.K G' vs fs' → D.nx σ H') → wS X sts D σ H
/-- .. its dict at p -/
def XI1 (X : Cx) (x C : Addr) (Γ : List B) (sts : List Stmt) (fs fs' : List (Str × D)) : Prop :=
  ∀ F σ G H (D : Ends) p vs, Stt X.K F Γ σ G H → σ[0]? = some (some (.ref x)) → F x = none → F p = none → H x = some (exo x C (some p)) → H p = some (exd p vs) → p ≠ x → G x = none → G p = none → IsFs X.K G vs fs → (∀ (j : Nat) (o : OO), Γ[j]? ≠ some (B.own o)) →
    (∀ G' H' vs', Grow G (xl H x (some p)) G' (xl H' x (some p)) → H' x = some (exo x C (some p)) → H' p = some (exd p vs') → G' x = none → G' p = none → IsFs X.K G' vs' fs' → D.nx σ H') → wS X sts D σ H
section
variable {X : Cx} {E : XK} {x C : Addr} {Γ : List B} {rest : List Stmt} {fs fs' : List (Str × D)} {v : D} {e e1 : Expr} {pos py apos p1 p2 pos2 : Pos} {lv : Nat} {N : List Str} {sc : Scope} {y f b : Str}
theorem xl_sub {G H : Hp} {d : Option Addr} (s : Ex G H) (g : G x = none) (gd : ∀ p, d = some p → G p = none) : Ex G (xl H x d) := fun b o e => by
  rw [xl_ne (ne_of_none e g) fun z => absurd e (by rw [gd b z]; exact fun w => nomatch w)]
  exact s b o e
theorem grow_xl {G H G' H' : Hp} {d : Option Addr} (g : Grow G H G' H') (gx : G' x = none) (gd : ∀ p, d = some p → G' p = none) : Grow G (xl H x d) G' (xl H' x d) := ⟨g.g, fun b o e => by
  by_cases hb : b = x
  · rw [hb, xl_x] at e
    cases e
  · by_cases hd : d = some b
    · rw [hd, xl_d] at e
      cases e
    · rw [xl_ne hb hd] at e ⊢
      exact g.h b o e, xl_sub g.s gx gd, fun b o e n => by
  by_cases hb : b = x
  · rw [hb]
    exact gx
  · by_cases hd : d = some b
    · exact gd b hd
    · rw [xl_ne hb hd] at e
      exact g.f b o e n⟩
theorem xi1_nil : XI1 X x C Γ [] fs fs := fun F σ G H D p vs s h0 fx fp hx hp ne gx gp hi hno k => w_nil (k G H vs (Grow.refl (xl_sub s.sub gx fun q e => by
  cases e
  exact gp)) hx hp gx gp hi)
theorem xi1_fld (hX : XOk lv N sc X) (hn : N[0]? = some y) (hl : Vis sc y) (hT : OexC X.K C) (hno' : PySem.W.findIn X.K (.ref C) f = some none) (he : ED X Γ e v) (hz : fs.length ≤ 900) (hr : XI1 X x C Γ rest ((f, v) :: fs) fs')
    (hs : swapsWith e (some (.Attribute (.Name y py) f apos)) pos.line X.env = pure false := by exact sw_ns rfl) (hd : (y == ("__debug__" : Str)) = false := by decide) (hcd : (y == ("__classdict__" : Str)) = false := by decide) :
    XI1 X x C Γ (.Assign [.Attribute (.Name y py) f apos] e pos :: rest) fs fs' := fun F σ G H D p vs s h0 fx fp hx hp ne gx gp hi hno k => by
  refine w_cons (ps_ost (pe_var (hX.nm hn) (hX.vs hl) hd hcd) pe_w hs) (he F σ G H s _ fun w G1 H1 g1 i1 => ⟨_, h0, x, C, rfl, hT, hno', .inr ?_⟩)
  have hx1 := g1.h _ _ hx
  have hp1 := g1.h _ _ hp
  have gx1 := g1.f x _ hx gx
  have gp1 := g1.f p _ hp gp
  have hi1 : IsFs X.K G1 vs fs := IsFs.mono g1.g fs vs hi
  have s1 := s.grow g1
  refine ⟨p, vs, hx1, hp1, by rw [hi.len]; exact hz, ?_⟩
  have nb : ∀ {q : Addr} {ws : List V}, F q = some (.lst ws) → q ≠ p := fun {q ws} h z => by
    rw [z, fp] at h
    cases h
  have s2 : Stt X.K F Γ σ G1 (upd H1 p (exd p ((f, w) :: vs))) := ⟨s1.len, fun b o e => by
    rw [upd_ne (ne_of_none e gp1)]
    exact s1.sub b o e, s1.dat, fun i o h => absurd h (hno i o), s1.sep, fun i xs h => let ⟨q, ws, k1, k2, k3, k4⟩ := s1.bor i xs h; ⟨q, ws, k1, by rw [upd_ne (nb k3)]; exact k2, k3, k4⟩, s1.exc⟩
  refine hr F σ G1 _ D p _ s2 h0 fx fp (by rw [upd_ne (Ne.symm ne)]; exact hx1) upd_same ne gx1 gp1 (.cons i1 hi1) hno fun G' H' vs' g' hx' hp' gx' gp' hi' => k G' H' vs' (Grow.trans (grow_xl g1 gx1 fun q e => by
    cases e
    exact gp1) ?_) hx' hp' gx' gp' hi'
  have e2 : xl (upd H1 p (exd p ((f, w) :: vs))) x (some p) = xl H1 x (some p) := by
    funext b
    by_cases hb : b = x
    · rw [hb, xl_x, xl_x]
    · by_cases hd : p = b
      · subst hd
        rw [xl_d, xl_d]
      · rw [xl_ne hb (fun z => hd (Option.some.inj z)), xl_ne hb (fun z => hd (Option.some.inj z)), upd_ne (Ne.symm hd)]
  rw [e2] at g'
  exact g'
/-- the first field -/
theorem xi0_fld (hX : XOk lv N sc X) (hn : N[0]? = some y) (hl : Vis sc y) (hT : OexC X.K C) (hno' : PySem.W.findIn X.K (.ref C) f = some none) (he : ED X Γ e v) (hr : XI1 X x C Γ rest [(f, v)] fs')
    (hs : swapsWith e (some (.Attribute (.Name y py) f apos)) pos.line X.env = pure false := by exact sw_ns rfl) (hd : (y == ("__debug__" : Str)) = false := by decide) (hcd : (y == ("__classdict__" : Str)) = false := by decide) :
    XI0 X x C Γ (.Assign [.Attribute (.Name y py) f apos] e pos :: rest) fs' := fun F σ G H D s h0 fx hx gx hno k => by
  refine w_cons (ps_ost (pe_var (hX.nm hn) (hX.vs hl) hd hcd) pe_w hs) (he F σ G H s _ fun w G1 H1 g1 i1 => ⟨_, h0, x, C, rfl, hT, hno', .inl ?_⟩)
  have hx1 := g1.h _ _ hx
  have gx1 := g1.f x _ hx gx
  have s1 := s.grow g1
  refine ⟨hx1, fun p hp ne => ?_⟩
  have gp1 : G1 p = none := Evl.fresh_back g1.s hp
  have hpH : H p = none := Evl.fresh_back g1.h hp
  have fp : F p = none → True := fun _ => trivial
  have hsub : Ex G1 (upd (upd H1 p (exd p [(f, w)])) x (exo x C (some p))) := fun b o e => by
    rw [upd_ne (ne_of_none e gx1), upd_ne (ne_of_none e gp1)]
    exact s1.sub b o e
  have fl : ∀ {q : Addr} {ws : List V}, F q = some (.lst ws) → H1 q = some (.lst ws) → upd (upd H1 p (exd p [(f, w)])) x (exo x C (some p)) q = some (.lst ws) := fun {q ws} h h' => by
    have n1 : q ≠ x := fun z => by
      rw [z, fx] at h
      cases h
    rw [upd_ne n1, upd_ne (ne_of_none h' hp)]
    exact h'
  have s2 : Stt X.K (dl F p) Γ σ G1 (upd (upd H1 p (exd p [(f, w)])) x (exo x C (some p))) := ⟨s1.len, hsub, s1.dat, fun i o h => absurd h (hno i o), s1.sep, fun i xs h => by
    obtain ⟨q, ws, k1, k2, k3, k4⟩ := s1.bor i xs h
    exact ⟨q, ws, k1, fl k3 k2, by rw [dl_ne (ne_of_none k2 hp)]; exact k3, k4⟩, s1.exc⟩
  refine hr (dl F p) σ G1 _ D p _ s2 h0 (by rw [dl_ne (Ne.symm ne)]; exact fx) dl_self upd_same (by rw [upd_ne ne]; exact upd_same) ne gx1 gp1 (.cons i1 .nil) hno fun G' H' vs' g' hx' hp' gx' gp' hi' => k G' H' p vs' ?_ hpH hx' hp' ne gx' gp' hi'
  have e2 : xl (upd (upd H1 p (exd p [(f, w)])) x (exo x C (some p))) x (some p) = xl H1 x (some p) := by
    funext b
    by_cases hb : b = x
    · rw [hb, xl_x, xl_x]
    · by_cases hd : p = b
      · subst hd
        rw [xl_d, xl_d]
      · rw [xl_ne hb (fun z => hd (Option.some.inj z)), xl_ne hb (fun z => hd (Option.some.inj z)), upd_ne hb, upd_ne (Ne.symm hd)]
  rw [e2] at g'
  have g2 := grow_xl (d := none) g1 gx1 fun q e => nomatch e
  refine Grow.trans (G1 := G1) (H1 := xl H1 x (some p)) ⟨g2.g, fun b o e => ?_, xl_sub g1.s gx1 fun q e => ?_, g2.f⟩ g'
  · have z := g2.h b o e
    by_cases hb : b = x
    · rw [hb, xl_x] at z
      cases z
    · have nn : (none : Option Addr) ≠ some b := by simp
      rw [xl_ne hb nn] at z
      rw [xl_ne (d := some p) hb fun w => ?_]
      · exact z
      · cases w
        rw [hp] at z
        cases z
  · cases e
    exact gp1
theorem pe_binit {ta : TA} {es : List Expr} {pl : Sem Bool} (hg : Gl X b) (hB : InitB X.K X.mg b) (ha : PA X (e :: es) ta)
    (hc : eval (.Call (.Attribute (.Name b p1) "__init__" p2) (e :: es) [] pos) X.env = (do
      let ov ← eval (.Name b p1) X.env
      standAt p2.atName
      let (f, first) ← holding [ov] (getMethod ov "__init__" pl)
      callWith pos f first (backTo pos (starEach (e :: es) X.env)) (backToKw pos (keywordEach [] X.env))))
    (he : starEach (e :: es) X.env = (false, eval e X.env) :: starEach es X.env) (hpl : (backTo pos (starEach es X.env)).any (·.1) = false) (hdb : (b == ("__debug__" : Str)) = false) :
    PE X (.Call (.Attribute (.Name b p1) "__init__" p2) (e :: es) [] pos) (tVeI X.K ta) := by
  obtain ⟨C0, mc, h1, h2, h3, h4⟩ := hB.ex
  refine ⟨fun pins s σ H Q I h => ?_⟩
  refine PySem.W.methodCall_KW (ld_glob I hg h1 ?_ hdb) hc
  refine PySem.W.method_cls I.kIn h3 (PySem.W.cls_value I.kIn h2 h4 (by decide +kernel) ?_)
  show wpAny _ _ (callWith pos (Value.builtin "ValueError.__init__") [] (backTo pos (starEach (e :: es) X.env)) []) _ _ _
  refine PyProof.Rows.callWith_method1 (thn (ha.run pos pins _ σ H _ (I.tok _) h) fun us s1 ⟨vs, H1, I1, r1, a, C, ws, ev, hl, T, ea, q⟩ => ?_) he hpl
  subst ev
  cases r1 with
  | @cons _ u0 _ ur ra rw' =>
    obtain rfl : u0 = Value.ref a := ra
    exact oinit_ok T I1 ea (by rw [← Paired.length rw', sizeLine_eq]; omega) fun s' J => ⟨.non, H1, J, rfl, q⟩
/-- B.__init__(self, 'm') -/
theorem xi0_init {m : Str} {j : Nat} {pl : Sem Bool} (hX : XOk lv N sc X) (hn : N[0]? = some y) (hl : Vis sc y) (hB : InitB X.K X.mg b) (hg : Gl X b) (hT : OexC X.K C) (hr : XI0 X x C Γ rest fs')
    (hc : eval (.Call (.Attribute (.Name b p1) "__init__" p2) [.Name y py, .Constant (.str m) j pos2] [] apos) X.env = (do
      let ov ← eval (.Name b p1) X.env
      standAt p2.atName
      let (f, first) ← holding [ov] (getMethod ov "__init__" pl)
      callWith apos f first (backTo apos (starEach [.Name y py, .Constant (.str m) j pos2] X.env)) (backToKw apos (keywordEach [] X.env))) := by rfl)
    (hdb : (b == ("__debug__" : Str)) = false := by decide) (hd : (y == ("__debug__" : Str)) = false := by decide) (hcd : (y == ("__classdict__" : Str)) = false := by decide) :
    XI0 X x C Γ (.Expr (.Call (.Attribute (.Name b p1) "__init__" p2) [.Name y py, .Constant (.str m) j pos2] [] apos) pos :: rest) fs' := fun F σ G H D s h0 fx hx gx hno k => by
  refine w_cons (ps_expr (pe_binit hg hB (pa_cons (pe_var (hX.nm hn) (hX.vs hl) hd hcd) (pa_cons pe_str pa_nil (starEach_ns rfl)) (starEach_ns rfl)) hc (starEach_ns rfl) (plain_ok rfl) hdb) (sw_ns rfl)) ?_
  exact ⟨_, h0, x, C, _, rfl, by show 1 ≤ 1000; decide, hT, hx, hr F σ G H D s h0 fx hx gx hno k⟩
end
theorem noOwn_of {Γ : List B} (h : (Γ.all fun b => match b with | .own _ => false | _ => true) = true) (j : Nat) (o : OO) : Γ[j]? ≠ some (B.own o) := fun e => by
  have q := List.all_eq_true.mp h _ (List.mem_of_getElem? e)
  cases q
/-- what __init__ of an exception promises -/
def spX (K : PySem.W.Frag) (n : Str) {A : Type} (enc : A → List AK) (flds : A → List (Str × D)) : Sp := fun vs H Q E => ∃ (x C : Addr) (ws : List V) (a : A) (G : Hp), vs = .ref x :: ws ∧ ClsX K n C ∧ H x = some (exo x C none) ∧ G x = none ∧ Ex G H ∧ IsAs K G H ws (enc a) ∧
  ∀ G' H' p fs, Grow G (xl H x none) G' (xl H' x (some p)) → H p = none → H' x = some (exo x C (some p)) → H' p = some (exd p fs) → p ≠ x → G' x = none → G' p = none → IsFs K G' fs (flds a) → Q .non H'
section
variable {P : Program} {w : World} {K : PySem.W.Frag} {mg : Str → Option Value} {base : Heap} {x qual n : Str} {st : Stmt} {fa : Addr} {fd : FuncData} {N ps : List Str} {lv : Nat} {A : Type} {enc : A → List AK} {flds : A → List (Str × D)}
theorem bor_ne {as : List AK} {m : Nat} : ((B.un :: (as.map bOf ++ List.replicate m B.un)).all fun b => match b with | .own _ => false | _ => true) = true := by
  rw [List.all_cons, List.all_append, List.all_map]
  simp only [Bool.true_and, Bool.and_eq_true, List.all_eq_true]
  refine ⟨fun a _ => ?_, fun b hb => ?_⟩
  · cases a <;> rfl
  · rw [List.eq_of_mem_replicate hb]
theorem init_okX (F : Fun K x qual st fa fd) {nm : Str} (S : FnScope (nm :: N) ps (defScope st)) (hlen : ∀ a, (enc a).length + 1 = ps.length)
    (hb : ∀ a, ∀ (X : Cx) (E : XK), X.prog = P → X.w = w → X.K = K → X.mg = mg → X.base = base → XOk lv (nm :: N) (defScope st) X → XCm X E → ∀ x C, ClsX K n C →
      XI0 X x C (B.un :: ((enc a).map bOf ++ List.replicate (N.length - (enc a).length) B.un)) (defBody st) (flds a)) : FnOk P w K mg base (L2.CX P w) (lv + 1) fa fd ps (spX K n enc flds) := by
  refine F.okX S (fun vs H Q E h => ?_) (fun cdv Ar outer s H vs Q E hr h => ?_)
  · obtain ⟨x, C, ws, a, G, rfl, _, _, _, _, h2, _⟩ := h
    rw [List.length_cons, h2.len, hlen]
  · obtain ⟨x, C, ws, a, G, rfl, hC, hx, gx, h1, h2, h4⟩ := h
    generalize hX : cxOf (L2.CX P w) P w K mg base (nm :: N) qual (defScope st) fa cdv Ar outer s H E = X
    have ok : XOk lv (nm :: N) (defScope st) X := by
      subst hX
      exact ⟨⟨hr.dp, hr.un⟩, fun _ => rfl, rfl, rfl, S.nd, S.kind, rfl, rfl⟩
    have cm : XCm X E := by
      subst hX
      exact ⟨rfl, hr.hd, passes_of rfl, takes_of rfl rfl rfl rfl⟩
    have b := hb a X E (by subst hX; rfl) (by subst hX; rfl) (by subst hX; rfl) (by subst hX; rfl) (by subst hX; rfl) ok cm x C hC
    have hK : X.K = K := by subst hX; rfl
    refine ⟨wS X (defBody st), pss_w, ?_⟩
    have e : L2.start (nm :: N) (V.ref x :: ws) = some (V.ref x) :: L2.start N ws := by
      unfold L2.start
      simp
    rw [e]
    have s0 := (stt_startN (N := N) h2 h1).cons (some (V.ref x))
    -- the frame without the exception itself
    have s1 : Stt K (dl H x) (B.un :: ((enc a).map bOf ++ List.replicate (N.length - (enc a).length) B.un)) (some (V.ref x) :: L2.start N ws) G H := by
      refine ⟨s0.len, s0.sub, s0.dat, fun i o h => absurd h (noOwn_of bor_ne i o), s0.sep, fun i xs h => ?_, s0.exc⟩
      obtain ⟨q, us, k1, k2, k3, k4⟩ := s0.bor i xs h
      refine ⟨q, us, k1, k2, ?_, k4⟩
      rw [dl_ne fun z => ?_]
      · exact k3
      · rw [z, hx] at k2
        have z' : some (HO.ext _) = some (HO.lst us) := k2
        cases z'
    refine b (dl H x) _ G H _ ?_ rfl dl_self hx gx (noOwn_of bor_ne) fun G' H' p fs g hp hx' hp' ne gx' gp' hi => ?_
    · rw [hK]
      exact s1
    · rw [hK] at hi
      exact h4 G' H' p fs g hp hx' hp' ne gx' gp' hi
end
/-- a class of exceptions that is made by its __init__ -/
structure MkrX (P : Program) (w : World) (K : PySem.W.Frag) (mg : Str → Option Value) (base : Heap) (n : Str) (lv : Nat) (sp : Sp) : Prop where
  ex : ∃ (C f : Addr) (fd : FuncData) (ps : List Str), mg n = some (.ref C) ∧ ClsX K n C ∧ PySem.W.findIn K (.ref C) "__init__" = some (some (.ref f)) ∧ PySem.W.typeIn K (.ref f) = some (.type "function") ∧ FnOk P w K mg base (L2.CX P w) lv f fd ps sp ∧ Binds K fd ps []
abbrev MkXX (X : Cx) (n : Str) (lv : Nat) (sp : Sp) : Prop := MkrX X.prog X.w X.K X.mg X.base n lv sp
section
variable {X : Cx} {E : XK} {Γ : List B} {S T R : Type} {Γs : S → List B} {Γb : T → List B} {f : R → Res} {rest : List Stmt} {pos p cpos : Pos} {lv lv' : Nat} {N : List Str} {sc : Scope} {n : Str} {A : Type} {enc : A → List AK} {flds : A → List (Str × D)} {e : Expr} {es : List Expr}
/-- raise C(e, ..) -/
theorem c_raiseX (a : A) (hM : XCm X E) (hX : XOk lv' N sc X) (hk : MkXX X n lv (spX X.K n enc flds)) (hr : Room (lv + 1) X.A) (hg : Gl X n) (ha : EA2 X Γ (e :: es) (enc a)) (hl : (enc a).length ≤ 900) (hnf : flds a ≠ [])
    (hdb : (n == ("__debug__" : Str)) = false := by decide) (he : starEach (e :: es) X.env = (false, eval e X.env) :: starEach es X.env := by exact starEach_ns rfl) (hpl : (backTo cpos (starEach es X.env)).any (·.1) = false := by exact plain_ok rfl) :
    BC X E Γ (.Raise (some (.Call (.Name n p) (e :: es) [] cpos)) none pos :: rest) Γs Γb f (.ret (.err ⟨n, flds a⟩)) := fun F G0 σ G H D s gr post => by
  obtain ⟨C, fI, fd, ps, h1, hC, h2, h3, h4, h5⟩ := hk.ex
  refine w_cons (ps_raise hM.calm hM.takes (pmk_oex (CX := L2.CX X.prog X.w) hC.ox h2 h3 h4 hr h5 .nil passL hg h1 pa_w hdb he hpl)) (ha F σ G H s _ fun vs G1 H1 g1 i1 => ?_)
  refine ⟨by rw [i1.len]; omega, fun x hx => ?_⟩
  rw [List.append_nil]
  have gx : G1 x = none := Evl.fresh_back g1.s hx
  have up : ∀ b o, H1 b = some o → upd H1 x (exo x C none) b = some o := fun b o eb => by
    rw [upd_ne (ne_of_none eb hx)]
    exact eb
  refine ⟨x, C, vs, a, G1, rfl, hC, upd_same, gx, fun b o eb => up b o (g1.s b o eb), ?_, fun G' H' p fs g hp hx' hp' ne gx' gp' hi => ⟨rfl, p, fs, hx', hp', ?_, ?_⟩⟩
  · clear post
    generalize enc a = as at i1
    induction i1 with
    | nil => exact .nil
    | d h _ ih => exact .d h ih
    | l h1 h2 _ ih => exact .l (up _ _ h1) h2 ih
  · rw [upd_ne ne] at hp
    exact hp
  · have hp1 : H1 p = none := by
      rw [upd_ne ne] at hp
      exact hp
    have post' : ∀ cls d G' H', Grow G0 F G' H' → ExIs X.K G' H' ⟨n, flds a⟩ cls d → E cls d H' := post
    have ex3 : ∀ b o, G' b = some o → upd (del H' x) p (.xd fs) b = some o := fun b o eb => by
      have nb : b ≠ p := ne_of_none eb gp'
      have nx : b ≠ x := ne_of_none eb gx'
      rw [upd_ne nb, del_ne nx]
      have z := g.s b o eb
      rw [xl_ne nx fun w => nb (Option.some.inj w).symm] at z
      exact z
    have g3 : Grow G1 H1 (upd G' p (.xd fs)) (upd (del H' x) p (.xd fs)) := by
      refine ⟨g.g.trans (Evl.Ex.new gp'), fun b o eb => ?_, fun b o eb => ?_, fun b o eb nb => ?_⟩
      · have nb : b ≠ p := ne_of_none eb hp1
        have nx : b ≠ x := ne_of_none eb hx
        rw [upd_ne nb, del_ne nx]
        have z := g.h b o (by rw [xl_ne (d := none) nx (by simp), upd_ne nx]; exact eb)
        rw [xl_ne nx fun w => nb (Option.some.inj w).symm] at z
        exact z
      · by_cases hb : b = p
        · rw [hb, upd_same] at eb ⊢
          exact eb
        · rw [upd_ne hb] at eb
          exact ex3 b o eb
      · have nb' : b ≠ p := ne_of_none eb hp1
        have nx : b ≠ x := ne_of_none eb hx
        rw [upd_ne nb']
        exact g.f b o (by rw [xl_ne (d := none) nx (by simp), upd_ne nx]; exact eb) nb
    exact post' (.ref C) (some p) _ _ ((gr.trans g1).trans g3) ⟨hC.nm, fun _ => ⟨p, fs, rfl, upd_same, IsFs.mono (Evl.Ex.new gp') _ _ hi⟩, fun z => absurd z hnf⟩
end
end Sd

namespace Sd
open PySem PySem.Spec PyProof.Rows L2
/-! ### except X as n: suite -/
/-- in the suite: the exception x is held, it is at a, its dict at d -/
def HEx (X : Cx) (a : Addr) (x : Exn) (d : Option Addr) : Prop := ∃ (X0 : Cx) (oe : Obj) (pn : List (Addr × Obj)) (cls : Value), X = X0.suite a ((a, oe) :: pn) ∧ Zc cls d oe ∧ (∃ vs, oe.data = .fields vs) ∧ PySem.W.nsIn X.K mainGlobals x.cls = some (some cls)
section
variable {X : Cx} {E : XK} {Γ : List B} {S T R : Type} {Γs : S → List B} {Γb : T → List B} {f : R → Res} {rest : List Stmt} {pos np pos' bpos : Pos} {lv : Nat} {N : List Str} {sc : Scope} {hx y n : Str} {py : Pos} {e : Expr} {suite : List Stmt} {b₀ : Stmt} {m : Str → Option Bool}
theorem set_un {Γ : List B} {j : Nat} (h : Γ[j]? = some .un) : Γ.set j .un = Γ := by
  apply List.ext_getElem?
  intro k
  by_cases hk : j = k
  · subst hk
    rw [h, List.getElem?_set_self (List.getElem?_eq_some_iff.mp h).1]
  · rw [List.getElem?_set_ne hk]
/-- what the end of a suite must bring, the name gone -/
theorem post_un {S T : Type} {K : PySem.W.Frag} {F G0 G : Hp} {E : XK} {D : Ends} {Γs : S → List B} {Γb : T → List B} {k : Ctl S T} {j : Nat} (hs : ∀ s, (Γs s)[j]? = some .un) (hb : ∀ b, (Γb b)[j]? = some .un) (h : PostC K F G0 G E D Γs Γb k) :
    PostC K F G0 G E { nx := fun σ' H' => D.nx (σ'.set j none) H', rt := D.rt, bk := fun σ' H' => D.bk (σ'.set j none) H', ct := fun σ' H' => D.ct (σ'.set j none) H' } Γs Γb k := by
  cases k with
  | go s => exact fun σ' G' H' ex st gr => h _ G' H' ex (by have q := st.unset j none; rw [set_un (hs s)] at q; exact q) gr
  | brk b => exact fun σ' G' H' ex st gr => h _ G' H' ex (by have q := st.unset j none; rw [set_un (hb b)] at q; exact q) gr
  | ret r => cases r <;> exact h
theorem try_err {τ S' : Type} {Γj : S' → List B} {c : Value} {j : Nat} {k1 : τ → Co S' T R} {k2 : Exn → Co S' T R} {F G0 : Hp} {σ : L2.St} {G H : Hp} {D : Ends} {x : Exn} (hf : ∀ v, (∃ z, f v = .v z) ∨ ∃ z, f v = .o z) (hX : XOk lv N sc X) (hM : XCm X E) (hu : ∀ s, (Γj s)[j]? = some .un) (hub : ∀ b, (Γb b)[j]? = some .un)
    (h4 : ∀ n b cls, m n = some b → PySem.W.nsIn X.K mainGlobals n = some (some cls) → PySem.W.exmOne X.K cls c = some b)
    (h2 : ∀ x a oe pn d, HEx (X.suite a ((a, oe) :: pn)) a x d → XOk lv N sc (X.suite a ((a, oe) :: pn)) → BC (X.suite a ((a, oe) :: pn)) E0 (Γ.set j (.exc a d x.fs)) (b₀ :: suite) Γj Γb f (k2 x))
    (s : Stt X.K F Γ σ G H) (gr : Grow G0 F G H) (post : PostC X.K F G0 G E D Γj Γb (Co.ctl f (tryO (.err x) m k1 fun x => (k2 x).ne))) (cls : Value) (d : Option Addr) (G1 H1 : Hp) (g1 : Grow G H G1 H1) (hi : ExIs X.K G1 H1 x cls d) :
    wAs X.K c j (fun a cls d D σ H => ∀ oe pn, Zc cls d oe → (∃ vs, oe.data = .fields vs) → wS (X.suite a ((a, oe) :: pn)) (b₀ :: suite) D σ H) (fun cls d _ H => E cls d H) D cls d σ H1 := by
  have post' : PostC X.K F G0 G E D Γj Γb (Co.ctl f (match m x.cls with | some true => (k2 x).ne | some false => .ret (.err x) | none => .ret .stk)) := post
  cases hm : m x.cls with
  | none =>
    rw [hm] at post'
    exact (show False from post').elim
  | some b =>
    rw [hm] at post'
    refine ⟨b, h4 _ _ _ hm hi.1, fun hb a na oe pn2 hz hd => ?_, fun hb => ?_⟩
    · subst hb
      exact h2 x a oe pn2 d ⟨X, oe, pn2, cls, rfl, hz, hd, hi.1⟩ (hX.su a _) F G0 _ G1 H1 _ ((s.grow g1).setE j ⟨rfl, hi.2.1, hi.2.2⟩) (gr.trans g1) (PostC.up (post_un hu hub (post_ne hf post')) g1.g)
    · subst hb
      exact (show PostR X.K F G0 E D.rt (.x x) from post') cls d G1 H1 (gr.trans g1) hi
/-- try: y = e; except X as n: suite -/
theorem c_tryAn {S' τ : Type} {Γj : S' → List B} (i j : Nat) (enc : τ → D) {r : Out τ} {s1 : τ → S'} {k2 : Exn → Co S' T R} {kr : S' → Co S T R} (hM : XCm X E) (hX : XOk lv N sc X) (hn : N[i]? = some y) (hl : Loc sc y) (hnj : N[j]? = some n) (hlj : sc.names.lookup n = some .local) (hc : ExH X.K X.mg hx m) (hg : Gl X hx)
    (hu : ∀ s, (Γj s)[j]? = some .un) (hub : ∀ b, (Γb b)[j]? = some .un)
    (he : ∀ (W : WX) pn xe, PsAt (X.tr pn xe) (L2.WE W) → ERs (X.tr pn xe) (L2.WE W) Γ e (rsOf (fun v => .v (enc v)) r)) (h1 : ∀ v, Wk (Γ.set i (.d (enc v))) (Γj (s1 v)))
    (h2 : ∀ x a oe pn d, HEx (X.suite a ((a, oe) :: pn)) a x d → XOk lv N sc (X.suite a ((a, oe) :: pn)) → BC (X.suite a ((a, oe) :: pn)) E0 (Γ.set j (.exc a d x.fs)) (b₀ :: suite) Γj Γb f (k2 x)) (hr : ∀ s', BC X E (Γj s') rest Γs Γb f (kr s'))
    (hf : ∀ v, (∃ z, f v = .v z) ∨ ∃ z, f v = .o z := by exact fun _ => by first | exact .inl ⟨_, rfl⟩ | exact .inr ⟨_, rfl⟩)
    (hs : ∀ pn xe, swapsWith e (some (.Name y py)) bpos.line (X.tr pn xe).env = pure false := by exact fun _ _ => sw_ns rfl) (hdb : (hx == ("__debug__" : Str)) = false := by decide) :
    BC X E Γ (.Try [.Assign [.Name y py] e bpos] [.ExceptHandler (some (.Name hx np)) (some n) (b₀ :: suite) pos'] [] [] pos :: rest) Γs Γb f ((tryO r m (fun v => .go (s1 v)) fun x => (k2 x).ne).bind kr) := by
  show BK _ _ _ _ _ _ (Co.ctl f ((tryO r m (fun v => .go (s1 v)) fun x => (k2 x).ne).bind kr))
  rw [ctl_bind]
  refine b_seq (Γj := Γj) (fun F G0 σ G H D s gr post => ?_) fun s' _ => hr s'
  obtain ⟨c, h3, h4⟩ := hc.ex
  refine ⟨_, ps_try_as (i := j) (c := c) (ts := fun a cls d D σ H => ∀ oe pn, Zc cls d oe → (∃ vs, oe.data = .fields vs) → wS (X.suite a ((a, oe) :: pn)) (b₀ :: suite) D σ H) (tb := fun W D σ H => ∀ pn xe, Takes (X.tr pn xe) W → wS (X.tr pn xe) [.Assign [.Name y py] e bpos] D σ H) hX.stk hX.frm hX.nd (hX.nm hnj) (hX.lk hlj) ⟨hg, hdb, .inl h3⟩ hM.takes
    (fun W pn xe tk _ => ⟨fun pins sh σ H D I h => (h pn xe tk).run pins sh I⟩) (fun a oe cls d pn hz hd => ⟨fun pins sh σ H D I h => (h oe pn hz hd).run pins sh I⟩), ?_⟩
  intro pn xe tk
  have hX' := hX.tr pn xe
  refine w_cons (ps_set hX'.nd (hX'.nm hn) (hX'.lc hl) pe_w (hs pn xe) (.inl (hX'.fn y))) (he _ pn xe (fun σ => passAt tk σ) F σ G H s _ ?_)
  cases r with
  | stk => exact (show False from post).elim
  | ok v =>
    have p : ∀ σ' G' H', Ex G G' → Stt X.K F (Γj (s1 v)) σ' G' H' → Grow G0 F G' H' → D.nx σ' H' := post
    exact fun w G1 H1 g1 i1 => w_nil (p _ G1 H1 g1.g (((s.grow g1).set i i1).wk (h1 v)) (gr.trans g1))
  | err x => exact fun cls d G1 H1 g1 hi => try_err hf hX hM hu hub h4 h2 s gr post cls d G1 H1 g1 hi
/-- try: e; except X as n: suite -/
theorem c_tryEn {S' τ : Type} {Γj : S' → List B} (j : Nat) {res : τ → Res} {r : Out τ} {s1 : S'} {k2 : Exn → Co S' T R} {kr : S' → Co S T R} (hM : XCm X E) (hX : XOk lv N sc X) (hnj : N[j]? = some n) (hlj : sc.names.lookup n = some .local) (hc : ExH X.K X.mg hx m) (hg : Gl X hx)
    (hu : ∀ s, (Γj s)[j]? = some .un) (hub : ∀ b, (Γb b)[j]? = some .un)
    (he : ∀ (W : WX) pn xe, PsAt (X.tr pn xe) (L2.WE W) → ERs (X.tr pn xe) (L2.WE W) Γ e (rsOf res r)) (h1 : Wk Γ (Γj s1))
    (h2 : ∀ x a oe pn d, HEx (X.suite a ((a, oe) :: pn)) a x d → XOk lv N sc (X.suite a ((a, oe) :: pn)) → BC (X.suite a ((a, oe) :: pn)) E0 (Γ.set j (.exc a d x.fs)) (b₀ :: suite) Γj Γb f (k2 x)) (hr : ∀ s', BC X E (Γj s') rest Γs Γb f (kr s'))
    (hf : ∀ v, (∃ z, f v = .v z) ∨ ∃ z, f v = .o z := by exact fun _ => by first | exact .inl ⟨_, rfl⟩ | exact .inr ⟨_, rfl⟩) (hres : ∀ v, (∃ z, res v = .v z) ∨ ∃ z, res v = .o z := by exact fun _ => by first | exact .inl ⟨_, rfl⟩ | exact .inr ⟨_, rfl⟩)
    (hs : ∀ pn xe, swapsWith e none bpos.line (X.tr pn xe).env = pure false := by exact fun _ _ => sw_ns rfl) (hdb : (hx == ("__debug__" : Str)) = false := by decide) :
    BC X E Γ (.Try [.Expr e bpos] [.ExceptHandler (some (.Name hx np)) (some n) (b₀ :: suite) pos'] [] [] pos :: rest) Γs Γb f ((tryO r m (fun _ => .go s1) fun x => (k2 x).ne).bind kr) := by
  show BK _ _ _ _ _ _ (Co.ctl f ((tryO r m (fun _ => .go s1) fun x => (k2 x).ne).bind kr))
  rw [ctl_bind]
  refine b_seq (Γj := Γj) (fun F G0 σ G H D s gr post => ?_) fun s' _ => hr s'
  obtain ⟨c, h3, h4⟩ := hc.ex
  refine ⟨_, ps_try_as (i := j) (c := c) (ts := fun a cls d D σ H => ∀ oe pn, Zc cls d oe → (∃ vs, oe.data = .fields vs) → wS (X.suite a ((a, oe) :: pn)) (b₀ :: suite) D σ H) (tb := fun W D σ H => ∀ pn xe, Takes (X.tr pn xe) W → wS (X.tr pn xe) [.Expr e bpos] D σ H) hX.stk hX.frm hX.nd (hX.nm hnj) (hX.lk hlj) ⟨hg, hdb, .inl h3⟩ hM.takes
    (fun W pn xe tk _ => ⟨fun pins sh σ H D I h => (h pn xe tk).run pins sh I⟩) (fun a oe cls d pn hz hd => ⟨fun pins sh σ H D I h => (h oe pn hz hd).run pins sh I⟩), ?_⟩
  intro pn xe tk
  have hX' := hX.tr pn xe
  refine w_cons (ps_expr pe_w (hs pn xe)) (he _ pn xe (fun σ => passAt tk σ) F σ G H s _ ?_)
  cases r with
  | stk => exact (show False from post).elim
  | ok v =>
    have p : ∀ σ' G' H', Ex G G' → Stt X.K F (Γj s1) σ' G' H' → Grow G0 F G' H' → D.nx σ' H' := post
    show PostR _ _ _ _ _ (res v)
    rcases hres v with ⟨z, e⟩ | ⟨z, e⟩
    · rw [e]
      exact fun w G1 H1 g1 i1 => w_nil (p _ G1 H1 g1.g ((s.grow g1).wk h1) (gr.trans g1))
    · rw [e]
      exact fun q u G1 H1 g1 _ _ _ _ => w_nil (p _ G1 H1 g1.g ((s.grow g1).wk h1) (gr.trans g1))
  | err x => exact fun cls d G1 H1 g1 hi => try_err hf hX hM hu hub h4 h2 s gr post cls d G1 H1 g1 hi
end
/-! ### isinstance of the exception that is held; its fields -/
/-- what isinstance says of the exception classes of a table -/
structure ExI (K : PySem.W.Frag) (cv : Value) (m : Str → Option Bool) : Prop where
  ex : ∀ n b cls, m n = some b → PySem.W.nsIn K mainGlobals n = some (some cls) → ∃ C, cls = .ref C ∧ ExcC K C ∧ PySem.W.kitOne K (.ref C) cv = some b
/-- .. an own class by its name -/
structure ExIC (K : PySem.W.Frag) (mg : Str → Option Value) (c : Str) (m : Str → Option Bool) : Prop where
  ex : ∃ D', mg c = some (.ref D') ∧ ExI K (.ref D') m
/-- the classes of a table have fields of that name -/
structure ExF (K : PySem.W.Frag) (f : Str) (m : Str → Bool) : Prop where
  ex : ∀ n cls, m n = true → PySem.W.nsIn K mainGlobals n = some (some cls) → ∃ C, cls = .ref C ∧ XfC K C ∧ PySem.W.findIn K (.ref C) f = some none
def rIsX (K : PySem.W.Frag) (C a : Addr) (d : Option Addr) : List V → Hp → VK → Prop := fun xs H Q => ∃ (c : V) (cv : Value) (b : Bool), xs = [.ref a, c] ∧ (∀ u, RelV c u → u = cv) ∧ PySem.W.kitOne K (.ref C) cv = some b ∧ (d = none ∨ ∃ p fs, d = some p ∧ H p = some (.xd fs)) ∧ Q (.bl b) H
theorem call_isX {X : Cx} {a C : Addr} {d : Option Addr} {oe : Obj} {pn : List (Addr × Obj)} (T : ExcC X.K C) (hz : Zc (.ref C) d oe) (hf : ∃ vs, oe.data = .fields vs) : CallR (X.suite a ((a, oe) :: pn)) (.builtin "isinstance") (rIsX X.K C a d) := by
  intro pins s σ H xs us Q I r h
  obtain ⟨c, cv, b, rfl, hcv, e, hd, q⟩ := h
  cases r with
  | cons rx rr =>
    cases rr with
    | cons rt rr =>
      cases rr
      cases rx
      have ec := hcv _ rt
      subst ec
      obtain ⟨hget, _⟩ := I.pin (a, oe) (List.mem_append.mpr (.inl List.mem_cons_self))
      obtain ⟨vs, hv⟩ := hf
      have hcl : (PySem.W.clsIn X.K C).isSome = true := by
        have z := T.hd
        unfold PySem.W.hasDictIn at z
        cases q : PySem.W.clsIn X.K C with
        | none =>
          rw [q] at z
          cases z
        | some _ => rfl
      have J : ∃ od, PySem.W.InstAt s.heap a oe C od := by
        obtain ⟨oc, od, oda, osl⟩ := oe
        obtain ⟨h1, h2⟩ := hz
        dsimp only at h1 h2 hv
        subst h1 h2 hv
        rcases hd with hd | ⟨p, fs, hd, hp⟩
        · subst hd
          exact ⟨none, hget, rfl, rfl, trivial⟩
        · subst hd
          obtain ⟨o, ho⟩ := objOk_get (I.hok p _ hp)
          exact ⟨some o, hget, rfl, rfl, ho⟩
      obtain ⟨od, J⟩ := J
      exact PySem.W.kia_one (PySem.W.kitx_exc (od := od) hcl T.hg T.hk T.hs T.ha T.hn T.ht T.hm) I.kIn J e (fun z => nomatch z) fun tk => ⟨.bl b, H, I.kept (t' := tk) fun _ _ z => z, rfl, q⟩
theorem ExS.dict {K : PySem.W.Frag} {G H : Hp} {v : V} {a : Addr} {d : Option Addr} {fs : List (Str × D)} (h : ExS K G v a d fs) (ex : Ex G H) : d = none ∨ ∃ p vs, d = some p ∧ H p = some (.xd vs) := by
  cases fs with
  | nil => exact .inl (h.2.2 rfl)
  | cons z fs =>
    obtain ⟨p, vs, h1, h2, _⟩ := h.2.1 (by simp)
    exact .inr ⟨p, vs, h1, ex _ _ h2⟩
section
variable {X : Cx} {Γ : List B} {pos p p2 py : Pos} {b : Expr} {c y f : Str} {a : Addr} {d : Option Addr} {x : Exn} {m : Str → Option Bool} {mf : Str → Bool} {r : Bool} {N : List Str} {sc : Scope} {lv : Nat}
theorem pe_exv (i : Nat) (hX : XOk lv N sc X) (hn : N[i]? = some y) (hv : Vis sc y) (hd : (y == ("__debug__" : Str)) = false := by decide) (hcd : (y == ("__classdict__" : Str)) = false := by decide) : PE X (.Name y py) (tVar i) := pe_var (hX.nm hn) (hX.vs hv) hd hcd
/-- isinstance(n, C), C an own class -/
theorem ed_isXC (i : Nat) (hX : XOk lv N sc X) (hn : N[i]? = some y) (hv : Vis sc y) (hE : HEx X a x d) (h : Γ[i]? = some (.exc a d x.fs)) (hg : Gl X "isinstance") (hm : X.mg "isinstance" = none) (hgc : Gl X c) (hT : ExIC X.K X.mg c m) (hr : (m x.cls).isSome = true)
    (hdb : (c == ("__debug__" : Str)) = false := by decide) (hd : (y == ("__debug__" : Str)) = false := by decide) (hcd : (y == ("__classdict__" : Str)) = false := by decide) : ED X Γ (.Call (.Name "isinstance" p) [.Name y py, .Name c p2] [] pos) (.bl ((m x.cls).getD false)) := by
  obtain ⟨D', hD, hT⟩ := hT.ex
  obtain ⟨r, hr⟩ := Option.isSome_iff_exists.mp hr
  rw [hr]
  show ED _ _ _ (.bl r)
  obtain ⟨X0, oe, pn, cls, rfl, hz, hf, hcls⟩ := hE
  obtain ⟨C, rfl, k1, k2⟩ := hT.ex _ _ _ hr hcls
  exact ed_of (pe_callB (call_isX (X := X0) k1 hz hf) hg hm (by decide +kernel) (pa_cons (pe_exv i hX hn hv hd hcd) (pa_cons (pe_glob (v := .ref D') hgc hD rfl hdb) pa_nil (starEach_ns rfl)) (starEach_ns rfl)) (by decide) (by decide) (starEach_ns rfl) (plain_ok rfl)) fun F σ G H s Q q => by
    obtain ⟨v, h1, h2⟩ := s.exc i _ _ _ h
    obtain rfl := h2.1
    exact ⟨_, h1, _, _, r, rfl, fun u ru => ru, k2, h2.dict s.sub, q _ G H (.refl s.sub) (.bl r)⟩
/-- isinstance(n, T), T a built-in class -/
theorem ed_isXB (i : Nat) {t : String} (hX : XOk lv N sc X) (hn : N[i]? = some y) (hv : Vis sc y) (hE : HEx X a x d) (h : Γ[i]? = some (.exc a d x.fs)) (hg : Gl X "isinstance") (hm : X.mg "isinstance" = none) (hb : ED X Γ b (.ty t)) (hT : ExI X.K (.type t) m) (hr : (m x.cls).isSome = true)
    (hst : starEach [b] X.env = (false, eval b X.env) :: starEach [] X.env := by exact starEach_ns rfl) (hpl : (backTo pos (starEach [b] X.env)).any (·.1) = false := by exact plain_ok rfl)
    (hd : (y == ("__debug__" : Str)) = false := by decide) (hcd : (y == ("__classdict__" : Str)) = false := by decide) : ED X Γ (.Call (.Name "isinstance" p) [.Name y py, b] [] pos) (.bl ((m x.cls).getD false)) := by
  obtain ⟨r, hr⟩ := Option.isSome_iff_exists.mp hr
  rw [hr]
  show ED _ _ _ (.bl r)
  obtain ⟨X0, oe, pn, cls, rfl, hz, hf, hcls⟩ := hE
  obtain ⟨C, rfl, k1, k2⟩ := hT.ex _ _ _ hr hcls
  exact ed_of (pe_callB (call_isX (X := X0) k1 hz hf) hg hm (by decide +kernel) (pa_cons (pe_exv i hX hn hv hd hcd) (pa_cons pe_w pa_nil hst) (starEach_ns rfl)) (by decide) (by decide) (starEach_ns rfl) hpl) fun F σ G H s Q q => by
    obtain ⟨v, h1, h2⟩ := s.exc i _ _ _ h
    obtain rfl := h2.1
    refine ⟨_, h1, hb F σ G H s _ fun w G1 H1 g1 i1 => ?_⟩
    cases i1
    exact ⟨_, _, r, rfl, fun u ru => ru, k2, h2.dict s.sub |>.imp id fun ⟨p, vs, k3, k4⟩ => ⟨p, vs, k3, g1.h _ _ k4⟩, q _ G1 H1 g1 (.bl r)⟩
/-- n.f -/
theorem ed_fldX (i : Nat) (hX : XOk lv N sc X) (hn : N[i]? = some y) (hv : Vis sc y) (hE : HEx X a x d) (h : Γ[i]? = some (.exc a d x.fs)) (hT : ExF X.K f mf) (hr : mf x.cls = true) (hl : (x.fs.lookup f).isSome = true)
    (hd : (y == ("__debug__" : Str)) = false := by decide) (hcd : (y == ("__classdict__" : Str)) = false := by decide) : ED X Γ (.Attribute (.Name y py) f pos) ((x.fs.lookup f).getD .non) := by
  obtain ⟨z, hl⟩ := Option.isSome_iff_exists.mp hl
  rw [hl]
  show ED _ _ _ z
  obtain ⟨X0, oe, pn, cls, rfl, hz, hf, hcls⟩ := hE
  obtain ⟨C, rfl, k1, k2⟩ := hT.ex _ _ hr hcls
  exact ed_of (pe_xf (X := X0) k1 k2 hz hf (pe_exv i hX hn hv hd hcd) (ab_ns rfl)) fun F σ G H s Q q => by
    obtain ⟨v, h1, h2⟩ := s.exc i _ _ _ h
    obtain rfl := h2.1
    obtain ⟨p, vs, k3, k4, k5⟩ := h2.2.1 (by intro w; rw [w] at hl; cases hl)
    obtain ⟨w, k6, k7⟩ := k5.get hl
    exact ⟨_, h1, rfl, rfl, p, vs, w, k3, s.sub _ _ k4, k6, q w G H (.refl s.sub) k7⟩
end
end Sd

namespace Sd
open PySem L2
/-! ### stepping through mirrors -/
section
variable {α S S' T R Y : Type} {p : Prop} {k c : Co S T R}
theorem chk_then (h : p) (hk : k = c) : chk p k = c := (chk_pos h).trans hk
theorem bnd_then {x : α} {f : α → Co S T R} (hk : f x = c) : bnd x f = c := hk
theorem bndO_then {o : Out α} {v : α} {f : α → Co S T R} (h : o = .ok v) (hk : f v = c) : bndO o f = c := by
  rw [h]
  exact hk
theorem bndO_err {o : Out α} {e : Exn} {f : α → Co S T R} (h : o = .err e) : bndO o f = .ret (.err e) := by
  rw [h]
  rfl
theorem bind_then {a : Co S' T R} {s : S'} {f : S' → Co S T R} (h : a = .go s) (hk : f s = c) : Co.bind a f = c := by
  rw [h]
  exact hk
theorem bind_ret {a : Co S' T R} {o : Out R} {f : S' → Co S T R} (h : a = .ret o) : Co.bind a f = .ret o := by
  rw [h]
  rfl
theorem ite_t {b : Bool} {x y : Co S T R} (h : b = true) (hk : x = c) : (if b = true then x else y) = c := by
  rw [h]
  exact hk
theorem ite_f {b : Bool} {x y : Co S T R} (h : b = false) (hk : y = c) : (if b = true then x else y) = c := by
  rw [h]
  exact hk
theorem up_then {a : Co Empty T R} {o : Out R} (h : a = .ret o) : (Co.up a : Co S T R) = .ret o := by
  rw [h]
  rfl
theorem try_ok {o : Out α} {m : Str → Option Bool} {v : α} {f : α → Co S T R} {g : Exn → Co S T R} (h : o = .ok v) (hk : f v = c) : tryO o m f g = c := by
  rw [h]
  exact hk
theorem try_hit {o : Out α} {m : Str → Option Bool} {e : Exn} {f : α → Co S T R} {g : Exn → Co S T R} (h : o = .err e) (hm : m e.cls = some true) (hk : g e = c) : tryO o m f g = c := by
  rw [h]
  show (match m e.cls with | some true => g e | some false => _ | none => _) = c
  rw [hm]
  exact hk
/-- what a body hands back -/
theorem out_ret {g o : Out R} {a : Co Unit Empty R} (h : a = .ret o) : a.out g = o := by
  rw [h]
  rfl
theorem out_go {g : Out R} {a : Co Unit Empty R} (h : a = .go ()) : a.out g = g := by
  rw [h]
  rfl
theorem isOk_of {o : Out α} {v : α} (h : o = .ok v) : o.IsOk := Out.ok_of h
/-! loops -/
theorem loop_nil {step : S → Y → Co S S R} {s : S} : (coLoop step s [] : Co S T R) = .go s := rfl
theorem loop_cons {step : S → Y → Co S S R} {s s' : S} {y : Y} {ys : List Y} (h : step s y = .go s') : (coLoop step s (y :: ys) : Co S T R) = coLoop step s' ys := by
  show (match step s y with | .go s' => coLoop step s' ys | .brk s' => .go s' | .ret r => .ret r) = _
  rw [h]
theorem loop_stop {step : S → Y → Co S S R} {s : S} {y : Y} {ys : List Y} {o : Out R} (h : step s y = .ret o) : (coLoop step s (y :: ys) : Co S T R) = .ret o := by
  show (match step s y with | .go s' => coLoop step s' ys | .brk s' => .go s' | .ret r => .ret r) = _
  rw [h]
theorem loop_brk {step : S → Y → Co S S R} {s s' : S} {y : Y} {ys : List Y} (h : step s y = .brk s') : (coLoop step s (y :: ys) : Co S T R) = .go s' := by
  show (match step s y with | .go s' => coLoop step s' ys | .brk s' => .go s' | .ret r => .ret r) = _
  rw [h]
/-- every turn goes on, the state is what it was -/
theorem loop_same {step : S → Y → Co S S R} {s : S} : ∀ {ys : List Y}, (∀ y ∈ ys, step s y = .go s) → (coLoop step s ys : Co S T R) = .go s
  | [], _ => rfl
  | y :: ys, h => by
    rw [loop_cons (h y List.mem_cons_self)]
    exact loop_same fun z hz => h z (List.mem_cons_of_mem _ hz)
/-- an invariant by the number of turns -/
theorem loop_inv {step : S → Y → Co S S R} (P : Nat → S → Prop) : ∀ (ys : List Y) (n : Nat) (s : S), P n s → (∀ i s y, ys[i]? = some y → P (n + i) s → ∃ s', step s y = .go s' ∧ P (n + i + 1) s') → ∃ s', (coLoop step s ys : Co S T R) = .go s' ∧ P (n + ys.length) s'
  | [], n, s, h, _ => ⟨s, rfl, h⟩
  | y :: ys, n, s, h, st => by
    obtain ⟨s1, e1, h1⟩ := st 0 s y rfl h
    obtain ⟨s2, e2, h2⟩ := loop_inv P ys (n + 1) s1 h1 fun i s z hz hp => by
      obtain ⟨s3, e3, h3⟩ := st (i + 1) s z (by simpa using hz) (by rw [show n + (i + 1) = n + 1 + i by omega]; exact hp)
      exact ⟨s3, e3, by rw [show n + 1 + i + 1 = n + (i + 1) + 1 by omega]; exact h3⟩
    refine ⟨s2, by rw [loop_cons e1]; exact e2, ?_⟩
    rw [List.length_cons, show n + (ys.length + 1) = n + 1 + ys.length by omega]
    exact h2
/-- an invariant by what was gone through -/
theorem loop_ind {step : S → Y → Co S S R} (P : List Y → S → Prop) : ∀ (ys pre : List Y) (s : S), P pre s → (∀ pre' s y post, pre ++ ys = pre' ++ y :: post → P pre' s → ∃ s', step s y = .go s' ∧ P (pre' ++ [y]) s') → ∃ s', (coLoop step s ys : Co S T R) = .go s' ∧ P (pre ++ ys) s'
  | [], pre, s, h, _ => ⟨s, rfl, by rw [List.append_nil]; exact h⟩
  | y :: ys, pre, s, h, st => by
    obtain ⟨s1, e1, h1⟩ := st pre s y ys rfl h
    obtain ⟨s2, e2, h2⟩ := loop_ind P ys (pre ++ [y]) s1 h1 fun pre' s z post e hp => st pre' s z post (by rw [← e, List.append_assoc]; rfl) hp
    exact ⟨s2, by rw [loop_cons e1]; exact e2, by rw [List.append_assoc] at h2; exact h2⟩
/-- a fold, where every turn goes on -/
theorem loop_foldlC {step : S → Y → Co S S R} (f : S → Y → S) : ∀ (ys : List Y) (s : S), (∀ s y, y ∈ ys → step s y = .go (f s y)) → (coLoop step s ys : Co S T R) = .go (ys.foldl f s)
  | [], _, _ => rfl
  | y :: ys, s, h => by
    rw [loop_cons (h s y List.mem_cons_self)]
    exact loop_foldlC f ys _ fun s z hz => h s z (List.mem_cons_of_mem _ hz)
/-- a search that leaves at the first hit -/
theorem loop_findC {step : S → Y → Co S S R} {q : Y → Bool} {s : S} {o : Y → Out R} : ∀ {ys : List Y}, (∀ y ∈ ys, step s y = if q y = true then .ret (o y) else .go s) → (coLoop step s ys : Co S T R) = match ys.find? q with | some y => .ret (o y) | none => .go s
  | [], _ => rfl
  | y :: ys, h => by
    have e := h y List.mem_cons_self
    cases hq : q y with
    | true =>
      rw [hq, if_pos rfl] at e
      rw [loop_stop e, List.find?_cons_of_pos hq]
    | false =>
      rw [hq, if_neg Bool.false_ne_true] at e
      rw [loop_cons e, List.find?_cons_of_neg (by rw [hq]; exact Bool.false_ne_true)]
      exact loop_findC fun z hz => h z (List.mem_cons_of_mem _ hz)
/-- all are as wanted, or the loop leaves -/
theorem loop_allC {step : S → Y → Co S S R} {q : Y → Bool} {s : S} {o : Out R} : ∀ {ys : List Y}, (∀ y ∈ ys, step s y = if q y = true then .go s else .ret o) → (coLoop step s ys : Co S T R) = if ys.all q = true then .go s else .ret o
  | [], _ => rfl
  | y :: ys, h => by
    have e := h y List.mem_cons_self
    cases hq : q y with
    | true =>
      rw [hq, if_pos rfl] at e
      rw [loop_cons e, List.all_cons, hq, Bool.true_and]
      exact loop_allC fun z hz => h z (List.mem_cons_of_mem _ hz)
    | false =>
      rw [hq, if_neg Bool.false_ne_true] at e
      rw [loop_stop e, List.all_cons, hq, Bool.false_and]
      rfl
end
theorem ite_ret {S T R : Type} {b : Bool} {x y : R} : (if b = true then (.ret (.ok x) : Co S T R) else .ret (.ok y)) = .ret (.ok (if b = true then x else y)) := by cases b <;> rfl
theorem rints_get' {lo : Int} {n i : Nat} {x : Int} (h : (rints lo n)[i]? = some x) : x = lo + (i : Int) ∧ i < n := by
  have hl := (List.getElem?_eq_some_iff.mp h).1
  rw [rints_len] at hl
  rw [rints_get hl] at h
  exact ⟨(Option.some.inj h).symm, hl⟩
theorem ix_some {α : Type} {xs : List α} {i : Nat} {x d : α} (h : xs[i]? = some x) : ix xs (i : Int) d = x := by
  rw [ix_nat, List.getD_eq_getElem?_getD, h]
  rfl
theorem ix_zero {α : Type} {t : α} {ts : List α} {d : α} : ix (t :: ts) 0 d = t := ix_nat (t :: ts) 0 d
theorem cut_one {α : Type} {t : α} {ts : List α} : cutL (t :: ts) (some 1) none = ts := by
  unfold cutL
  have e1 : HT.sIx (t :: ts).length 0 (some 1) = 1 := by
    have q := HT.sIx_nat (t :: ts).length 0 1
    rw [List.length_cons] at q ⊢
    exact q.trans (by omega)
  rw [e1]
  show ts.take (ts.length + 1 - 1) = ts
  exact List.take_length
theorem cut_from {α : Type} (xs : List α) (n : Nat) (h : n ≤ xs.length) : cutL xs (some (n : Int)) none = xs.drop n := by
  unfold cutL
  rw [HT.sIx_nat]
  show (xs.drop (min n xs.length)).take (xs.length - min n xs.length) = _
  rw [Nat.min_eq_left h]
  exact List.take_of_length_le (by rw [List.length_drop]; omega)
theorem cut_to {α : Type} (xs : List α) (n : Nat) : cutL xs none (some (n : Int)) = xs.take n := by
  unfold cutL
  rw [HT.sIx_nat]
  show (xs.drop 0).take (min n xs.length - 0) = _
  rw [List.drop_zero, Nat.sub_zero]
  by_cases h : n ≤ xs.length
  · rw [Nat.min_eq_left h]
  · rw [Nat.min_eq_right (by omega), List.take_of_length_le (Nat.le_refl _), List.take_of_length_le (by omega)]
theorem LMax_eq : LMax = 16000000 := rfl
theorem if_ix {α : Type} {xs : List α} {b : Bool} (h : 2 ≤ xs.length) : -(xs.length : Int) ≤ (if b = true then 1 else 0 : Int) ∧ (if b = true then 1 else 0 : Int) < (xs.length : Int) := by
  cases b <;> simp <;> omega
end Sd

namespace Sd
open PySem L2
/-! ### mirrors by rewriting -/
section
variable {α S S' T R Y : Type}
theorem chk_true {k : Co S T R} : chk True k = k := chk_pos trivial
theorem isOk_ok {v : α} : (Out.ok v).IsOk = True := rfl
theorem isOk_err {e : Exn} : (Out.err e : Out α).IsOk = False := rfl
theorem get_okE {v d : α} : (Out.ok v).get d = v := rfl
theorem bndO_okE {v : α} {f : α → Co S T R} : bndO (.ok v) f = f v := rfl
theorem bndO_errE {e : Exn} {f : α → Co S T R} : bndO (.err e) f = .ret (.err e) := rfl
theorem bind_goE {s : S'} {f : S' → Co S T R} : Co.bind (.go s) f = f s := rfl
theorem bind_retE {o : Out R} {f : S' → Co S T R} : Co.bind (.ret o) f = .ret o := rfl
theorem up_retE {o : Out R} : (Co.up (.ret o) : Co S T R) = .ret o := rfl
theorem out_retE {g o : Out R} : Co.out g (.ret o) = o := rfl
theorem out_goE {g : Out R} : Co.out g (.go ()) = g := rfl
theorem bind_iteE {b : Bool} {x y : Co S' T R} {f : S' → Co S T R} : Co.bind (if b = true then x else y) f = if b = true then Co.bind x f else Co.bind y f := by cases b <;> rfl
theorem up_iteE {b : Bool} {x y : Co Empty T R} : (Co.up (if b = true then x else y) : Co S T R) = if b = true then Co.up x else Co.up y := by cases b <;> rfl
theorem out_iteE {b : Bool} {g : Out R} {x y : Co Unit Empty R} : Co.out g (if b = true then x else y) = if b = true then Co.out g x else Co.out g y := by cases b <;> rfl
theorem try_okE {m : Str → Option Bool} {v : α} {f : α → Co S T R} {g : Exn → Co S T R} : tryO (.ok v) m f g = f v := rfl
theorem ok_ite {b : Bool} {x y : α} : (if b = true then Out.ok x else .ok y) = .ok (if b = true then x else y) := by cases b <;> rfl
theorem ok_bool {b : Bool} : (if b = true then Out.ok true else .ok false) = .ok b := by cases b <;> rfl
theorem ok_nbool {b : Bool} : (if b = true then Out.ok false else .ok true) = .ok (!b) := by cases b <;> rfl
end
theorem ite_bool {b : Bool} : (if b = true then true else false) = b := by cases b <;> rfl
theorem join_okL {n m k : Nat} {ls : List (List Nat)} {s : List Nat} (h : ∀ x ∈ ls, x.length ≤ n) (hm : ls.length ≤ m) (hs : s.length ≤ k) (hk : n * m + m * k ≤ 16000000) : (ls.map (·.length)).sum + ls.length * s.length ≤ LMax := by
  have h1 := sum_le h
  have h2 : n * ls.length ≤ n * m := Nat.mul_le_mul_left n hm
  have h3 : ls.length * s.length ≤ m * k := Nat.mul_le_mul hm hs
  show _ ≤ 16000000
  omega
theorem joinS_one (s a : List Nat) : joinS s [a] = a := by
  rw [joinS_eq]
  rfl
theorem joinS_two (s a b : List Nat) (r : List (List Nat)) : joinS s (a :: b :: r) = a ++ (s ++ joinS s (b :: r)) := by
  rw [joinS_eq, joinS_eq]
  rfl
theorem er_map {α β : Type} {X : Cx} {E : L2.St → XK} {Γ : List B} {e : Expr} {F : α → Res} {F' : β → Res} {r : Out α} (g : α → β) (h : ∀ v, F v = F' (g v)) (he : ERs X E Γ e (rsOf F r)) : ERs X E Γ e (rsOf F' (mapO g r)) := by
  have q : rsOf F r = rsOf F' (mapO g r) := by
    cases r with
    | ok v => exact h v
    | err e => rfl
    | stk => rfl
  rw [q] at he
  exact he
theorem mapO_ok {α β : Type} {g : α → β} {v : α} : mapO g (.ok v) = .ok (g v) := rfl
theorem mapO_err {α β : Type} {g : α → β} {e : Exn} : mapO g (.err e) = .err e := rfl
theorem if_two {α : Type} {x y : α} {b : Bool} : -(([x, y] : List α).length : Int) ≤ (if b = true then 1 else 0 : Int) ∧ (if b = true then 1 else 0 : Int) < (([x, y] : List α).length : Int) := if_ix (Nat.le_refl 2)
theorem chk_two {α S T R : Type} {x y : α} {b : Bool} {k : Co S T R} : chk (-(([x, y] : List α).length : Int) ≤ (if b = true then 1 else 0 : Int) ∧ (if b = true then 1 else 0 : Int) < (([x, y] : List α).length : Int)) k = k := chk_pos if_two
theorem sum_app (a b : List (List Nat)) : ((a ++ b).map (·.length)).sum = (a.map (·.length)).sum + (b.map (·.length)).sum := by rw [List.map_append, List.sum_append]
theorem sum_drop (ls : List (List Nat)) (n : Nat) : ((ls.drop n).map (·.length)).sum ≤ (ls.map (·.length)).sum := by
  have := sum_app (ls.take n) (ls.drop n)
  rw [List.take_append_drop] at this
  omega
theorem sum_take (ls : List (List Nat)) (n : Nat) : ((ls.take n).map (·.length)).sum ≤ (ls.map (·.length)).sum := by
  have := sum_app (ls.take n) (ls.drop n)
  rw [List.take_append_drop] at this
  omega
theorem sum_cut (ls : List (List Nat)) (i j : Option Int) : ((cutL ls i j).map (·.length)).sum ≤ (ls.map (·.length)).sum := Nat.le_trans (sum_take _ _) (sum_drop _ _)
theorem joinL_sum (s : List Nat) : ∀ (ls : List (List Nat)), ls ≠ [] → (TL.joinL s ls).length + s.length = (ls.map (·.length)).sum + ls.length * s.length
  | [], h => absurd rfl h
  | [p], _ => by
    show p.length + s.length = (p.length + 0) + 1 * s.length
    omega
  | p :: q :: r, _ => by
    have ih := joinL_sum s (q :: r) (by simp)
    show (p ++ (s ++ TL.joinL s (q :: r))).length + s.length = (p.length + ((q :: r).map (·.length)).sum) + ((q :: r).length + 1) * s.length
    rw [List.length_append, List.length_append, Nat.add_mul]
    omega
theorem split_sum {c : Nat} (hc : c < 256) (l : List Nat) : ((splitS l [c]).map (·.length)).sum + (splitS l [c]).length = l.length + 1 := by
  have h := joinL_sum [c] (splitS l [c]) (by
    intro e
    have := splitS_pos hc l
    rw [e] at this
    exact absurd this (by decide))
  rw [← joinS_eq, join_split hc] at h
  simp only [List.length_cons, List.length_nil] at h
  omega
theorem cut_jok {ls : List (List Nat)} {c : Nat} (h : (ls.map (·.length)).sum + ls.length ≤ LMax) (i j : Option Int) : ((cutL ls i j).map (·.length)).sum + (cutL ls i j).length * ([c] : List Nat).length ≤ LMax := by
  have h1 := sum_cut ls i j
  have h2 := cutL_len ls i j
  show _ + _ * 1 ≤ _
  omega
/-! tables of classes -/
theorem tab_nil {K : PySem.W.Frag} {P : Value → Bool → Prop} : ∀ n b cls, List.lookup n ([] : List (Str × Bool)) = some b → PySem.W.nsIn K mainGlobals n = some (some cls) → P cls b := fun n b cls h _ => nomatch h
theorem tab_cons {K : PySem.W.Frag} {P : Value → Bool → Prop} {n0 : Str} {b0 : Bool} {c0 : Value} {l : List (Str × Bool)} (h0 : PySem.W.nsIn K mainGlobals n0 = some (some c0)) (h1 : P c0 b0) (h2 : ∀ n b cls, List.lookup n l = some b → PySem.W.nsIn K mainGlobals n = some (some cls) → P cls b) :
    ∀ n b cls, List.lookup n ((n0, b0) :: l) = some b → PySem.W.nsIn K mainGlobals n = some (some cls) → P cls b := fun n b cls h hn => by
  rw [List.lookup_cons] at h
  cases e : (n == n0) with
  | true =>
    rw [e] at h
    have h : some b0 = some b := h
    cases h
    have e' := eq_of_beq e
    subst e'
    rw [h0] at hn
    cases hn
    exact h1
  | false =>
    rw [e] at h
    exact h2 n b cls h hn
theorem tabn_nil {K : PySem.W.Frag} {P : Value → Prop} : ∀ n ∈ ([] : List Str), ∀ cls, PySem.W.nsIn K mainGlobals n = some (some cls) → P cls := fun n h => nomatch h
theorem tabn_cons {K : PySem.W.Frag} {P : Value → Prop} {n0 : Str} {c0 : Value} {l : List Str} (h0 : PySem.W.nsIn K mainGlobals n0 = some (some c0)) (h1 : P c0) (h2 : ∀ n ∈ l, ∀ cls, PySem.W.nsIn K mainGlobals n = some (some cls) → P cls) :
    ∀ n ∈ n0 :: l, ∀ cls, PySem.W.nsIn K mainGlobals n = some (some cls) → P cls := fun n h cls hn => by
  rcases List.mem_cons.mp h with e | h
  · subst e
    rw [h0] at hn
    cases hn
    exact h1
  · exact h2 n h cls hn
theorem tabn_of {K : PySem.W.Frag} {P : Value → Prop} {l : List Str} (h : ∀ n ∈ l, ∀ cls, PySem.W.nsIn K mainGlobals n = some (some cls) → P cls) : ∀ n cls, decide (n ∈ l) = true → PySem.W.nsIn K mainGlobals n = some (some cls) → P cls := fun n cls hd hn => h n (of_decide_eq_true hd) cls hn
/-! folds -/
section
variable {S T R Y : Type}
/-- an invariant by the turn's number, and what the state is -/
theorem loop_foldI {step : S → Y → Co S S R} (P : Nat → S → Prop) (f : S → Y → S) : ∀ (ys : List Y) (n : Nat) (s : S), P n s → (∀ i s y, ys[i]? = some y → P (n + i) s → step s y = .go (f s y) ∧ P (n + i + 1) (f s y)) → (coLoop step s ys : Co S T R) = .go (ys.foldl f s) ∧ P (n + ys.length) (ys.foldl f s)
  | [], n, s, h, _ => ⟨rfl, h⟩
  | y :: ys, n, s, h, st => by
    obtain ⟨e1, h1⟩ := st 0 s y rfl h
    obtain ⟨e2, h2⟩ := loop_foldI P f ys (n + 1) (f s y) h1 fun i s z hz hp => by
      obtain ⟨e3, h3⟩ := st (i + 1) s z (by simpa using hz) (by rw [show n + (i + 1) = n + 1 + i by omega]; exact hp)
      exact ⟨e3, by rw [show n + 1 + i + 1 = n + (i + 1) + 1 by omega]; exact h3⟩
    refine ⟨by rw [loop_cons e1]; exact e2, ?_⟩
    rw [List.length_cons, show n + (ys.length + 1) = n + 1 + ys.length by omega]
    exact h2
def Out.bind {α β : Type} (o : Out α) (f : α → Out β) : Out β := match o with
  | .ok v => f v
  | .err e => .err e
  | .stk => .stk
def foldO (f : S → Y → Out S) : S → List Y → Out S
  | s, [] => .ok s
  | s, y :: ys => (f s y).bind fun s' => foldO f s' ys
theorem foldO_app (f : S → Y → Out S) : ∀ (ys zs : List Y) (s : S), foldO f s (ys ++ zs) = (foldO f s ys).bind fun s' => foldO f s' zs
  | [], _, _ => rfl
  | y :: ys, zs, s => by
    show (f s y).bind (fun s' => foldO f s' (ys ++ zs)) = ((f s y).bind fun s' => foldO f s' ys).bind _
    cases h : f s y with
    | ok v => exact foldO_app f ys zs v
    | err e => rfl
    | stk => rfl
/-- each turn may raise -/
theorem loop_foldO {step : S → Y → Co S S R} (P : Nat → S → Prop) (f : S → Y → Out S) : ∀ (ys : List Y) (n : Nat) (s : S), P n s → (∀ i s y, ys[i]? = some y → P (n + i) s → step s y = bndO (f s y) .go ∧ ∀ s', f s y = .ok s' → P (n + i + 1) s') → (coLoop step s ys : Co S T R) = bndO (foldO f s ys) .go
  | [], n, s, h, _ => rfl
  | y :: ys, n, s, h, st => by
    obtain ⟨e1, h1⟩ := st 0 s y rfl h
    show _ = bndO ((f s y).bind fun s' => foldO f s' ys) .go
    cases hf : f s y with
    | ok v =>
      rw [hf] at e1
      rw [loop_cons e1]
      exact loop_foldO P f ys (n + 1) v (h1 v hf) fun i s z hz hp => by
        obtain ⟨e3, h3⟩ := st (i + 1) s z (by simpa using hz) (by rw [show n + (i + 1) = n + 1 + i by omega]; exact hp)
        exact ⟨e3, fun s' hs => by rw [show n + 1 + i + 1 = n + (i + 1) + 1 by omega]; exact h3 s' hs⟩
    | err e =>
      rw [hf] at e1
      rw [loop_stop e1]
      rfl
    | stk =>
      rw [hf] at e1
      rw [loop_stop e1]
      rfl
end
end Sd

namespace LawP
open PySem PySem.Spec PyProof.Rows L2 Sd
def top (i : Nat) : Stmt := PySem.Challenge.pw_drawhouse_k21_rows_read.main.body.getD i (.Pass ⟨0, 0, 0, 0⟩)
abbrev LETTERS : List Nat := [97, 98, 99, 100, 101, 102, 103, 104, 105, 106, 107, 108, 109, 110, 111, 112, 113, 114, 115, 116, 117, 118, 119, 120, 121, 122]
abbrev FIGURES : List Nat := [48, 49, 50, 51, 52, 53, 54, 55, 56, 57]
inductive Thing where
  | num (x : Int)
  | path (x : (List (List Nat)))
  deriving DecidableEq
def encThing : Thing → D
  | .num x => (D.int x)
  | .path x => (D.tup (List.map D.str x))
def Thing.is_num : Thing → Bool
  | .num _ => true
  | _ => false
def Thing.as_num : Thing → Int
  | .num x => x
  | _ => (0 : Int)
theorem Thing.num_ok {v : Thing} (h : v.is_num = true) : encThing v = (D.int (Thing.as_num v)) := by
  cases v <;> first | rfl | cases h
def Thing.is_path : Thing → Bool
  | .path _ => true
  | _ => false
def Thing.as_path : Thing → (List (List Nat))
  | .path x => x
  | _ => []
theorem Thing.path_ok {v : Thing} (h : v.is_path = true) : encThing v = (D.tup (List.map D.str (Thing.as_path v))) := by
  cases v <;> first | rfl | cases h
theorem eqT_thing (n : Nat) : EqT (n + 1) encThing := ⟨fun a => by
  cases a with
  | num x => cases n <;> rfl
  | path x => exact (eqT_vt (eqT_str n)).k x, fun a b => by
  cases a with
  | num x =>
    cases b with
    | num y =>
      show (x == y) = _
      by_cases e : x = y
      · subst e
        simp
      · simp [e]
    | path y => rfl
  | path x =>
    cases b with
    | num y => rfl
    | path y =>
      have h := (eqT_vt (eqT_str n)).eq x y
      show eqD (D.tup (x.map D.str)) (D.tup (y.map D.str)) = _
      rw [h]
      by_cases e : x = y
      · subst e
        simp
      · simp [e]⟩
inductive RowT where
  | Let (name : (List Nat)) (terms : (List (Int × (List Nat) × Thing)))
  | Deed (name : (List Nat)) (terms : (List (Int × (List Nat) × Thing)))
  | Draw (address : (List Nat)) (name : (List Nat))
  | Late (address : (List Nat)) (name : (List Nat))
  | Take (word : (List Nat)) (address : (List Nat)) (name : (List Nat))
  | Need (terms : (List (Int × (List Nat) × Thing)))
  deriving DecidableEq
def encRow : RowT → D
  | .Let x0 x1 => D.ins "Let" [("name", (D.str x0)), ("terms", (D.lst (List.map (fun z : (Int × (List Nat) × Thing) => (D.tup [(D.int z.1), (D.str z.2.1), (encThing z.2.2)])) x1)))]
  | .Deed x0 x1 => D.ins "Deed" [("name", (D.str x0)), ("terms", (D.lst (List.map (fun z : (Int × (List Nat) × Thing) => (D.tup [(D.int z.1), (D.str z.2.1), (encThing z.2.2)])) x1)))]
  | .Draw x0 x1 => D.ins "Draw" [("address", (D.str x0)), ("name", (D.str x1))]
  | .Late x0 x1 => D.ins "Late" [("address", (D.str x0)), ("name", (D.str x1))]
  | .Take x0 x1 x2 => D.ins "Take" [("word", (D.str x0)), ("address", (D.str x1)), ("name", (D.str x2))]
  | .Need x0 => D.ins "Need" [("terms", (D.lst (List.map (fun z : (Int × (List Nat) × Thing) => (D.tup [(D.int z.1), (D.str z.2.1), (encThing z.2.2)])) x0)))]
def RowT.R_name : RowT → (List Nat)
  | .Let x0 x1 => x0
  | .Deed x0 x1 => x0
  | .Draw x0 x1 => x1
  | .Late x0 x1 => x1
  | .Take x0 x1 x2 => x2
  | .Need _ => []
def RowT.H_name : RowT → Bool
  | .Let _ _ => true
  | .Deed _ _ => true
  | .Draw _ _ => true
  | .Late _ _ => true
  | .Take _ _ _ => true
  | .Need _ => false
theorem RowT.fld_name {X : Cx} {Γ : List B} {e : Expr} {pos : Pos} (h_Let : FldA X.K "Let" "name") (h_Deed : FldA X.K "Deed" "name") (h_Draw : FldA X.K "Draw" "name") (h_Late : FldA X.K "Late" "name") (h_Take : FldA X.K "Take" "name") (r : RowT) (hr : RowT.H_name r = true) (he : ED X Γ e (encRow r)) (hb : attributeBase e "name" X.env (eval e X.env) = eval e X.env := by exact ab_ns rfl) : ED X Γ (.Attribute e "name" pos) (D.str (RowT.R_name r)) := by
  cases r with
  | Let x0 x1 => exact ed_fld he h_Let rfl hb
  | Deed x0 x1 => exact ed_fld he h_Deed rfl hb
  | Draw x0 x1 => exact ed_fld he h_Draw rfl hb
  | Late x0 x1 => exact ed_fld he h_Late rfl hb
  | Take x0 x1 x2 => exact ed_fld he h_Take rfl hb
  | Need x0 => cases hr
def RowT.R_terms : RowT → (List (Int × (List Nat) × Thing))
  | .Let x0 x1 => x1
  | .Deed x0 x1 => x1
  | .Draw _ _ => []
  | .Late _ _ => []
  | .Take _ _ _ => []
  | .Need x0 => x0
def RowT.H_terms : RowT → Bool
  | .Let _ _ => true
  | .Deed _ _ => true
  | .Draw _ _ => false
  | .Late _ _ => false
  | .Take _ _ _ => false
  | .Need _ => true
theorem RowT.fld_terms {X : Cx} {Γ : List B} {e : Expr} {pos : Pos} (h_Let : FldA X.K "Let" "terms") (h_Deed : FldA X.K "Deed" "terms") (h_Need : FldA X.K "Need" "terms") (r : RowT) (hr : RowT.H_terms r = true) (he : ED X Γ e (encRow r)) (hb : attributeBase e "terms" X.env (eval e X.env) = eval e X.env := by exact ab_ns rfl) : ED X Γ (.Attribute e "terms" pos) (D.lst (List.map (fun z : (Int × (List Nat) × Thing) => (D.tup [(D.int z.1), (D.str z.2.1), (encThing z.2.2)])) (RowT.R_terms r))) := by
  cases r with
  | Let x0 x1 => exact ed_fld he h_Let rfl hb
  | Deed x0 x1 => exact ed_fld he h_Deed rfl hb
  | Draw x0 x1 => cases hr
  | Late x0 x1 => cases hr
  | Take x0 x1 x2 => cases hr
  | Need x0 => exact ed_fld he h_Need rfl hb
def RowT.R_address : RowT → (List Nat)
  | .Let _ _ => []
  | .Deed _ _ => []
  | .Draw x0 x1 => x0
  | .Late x0 x1 => x0
  | .Take x0 x1 x2 => x1
  | .Need _ => []
def RowT.H_address : RowT → Bool
  | .Let _ _ => false
  | .Deed _ _ => false
  | .Draw _ _ => true
  | .Late _ _ => true
  | .Take _ _ _ => true
  | .Need _ => false
theorem RowT.fld_address {X : Cx} {Γ : List B} {e : Expr} {pos : Pos} (h_Draw : FldA X.K "Draw" "address") (h_Late : FldA X.K "Late" "address") (h_Take : FldA X.K "Take" "address") (r : RowT) (hr : RowT.H_address r = true) (he : ED X Γ e (encRow r)) (hb : attributeBase e "address" X.env (eval e X.env) = eval e X.env := by exact ab_ns rfl) : ED X Γ (.Attribute e "address" pos) (D.str (RowT.R_address r)) := by
  cases r with
  | Let x0 x1 => cases hr
  | Deed x0 x1 => cases hr
  | Draw x0 x1 => exact ed_fld he h_Draw rfl hb
  | Late x0 x1 => exact ed_fld he h_Late rfl hb
  | Take x0 x1 x2 => exact ed_fld he h_Take rfl hb
  | Need x0 => cases hr
def RowT.R_word : RowT → (List Nat)
  | .Let _ _ => []
  | .Deed _ _ => []
  | .Draw _ _ => []
  | .Late _ _ => []
  | .Take x0 x1 x2 => x0
  | .Need _ => []
def RowT.H_word : RowT → Bool
  | .Let _ _ => false
  | .Deed _ _ => false
  | .Draw _ _ => false
  | .Late _ _ => false
  | .Take _ _ _ => true
  | .Need _ => false
theorem RowT.fld_word {X : Cx} {Γ : List B} {e : Expr} {pos : Pos} (h_Take : FldA X.K "Take" "word") (r : RowT) (hr : RowT.H_word r = true) (he : ED X Γ e (encRow r)) (hb : attributeBase e "word" X.env (eval e X.env) = eval e X.env := by exact ab_ns rfl) : ED X Γ (.Attribute e "word" pos) (D.str (RowT.R_word r)) := by
  cases r with
  | Let x0 x1 => cases hr
  | Deed x0 x1 => cases hr
  | Draw x0 x1 => cases hr
  | Late x0 x1 => cases hr
  | Take x0 x1 x2 => exact ed_fld he h_Take rfl hb
  | Need x0 => cases hr
def RowT.is_Let : RowT → Bool
  | .Let _ _ => true
  | .Deed _ _ => false
  | .Draw _ _ => false
  | .Late _ _ => false
  | .Take _ _ _ => false
  | .Need _ => false
theorem RowT.isi_Let {X : Cx} {Γ : List B} {a : Expr} {pos p p2 : Pos} (h_Let : IsA X.K X.mg "Let" "Let" true) (h_Deed : IsA X.K X.mg "Deed" "Let" false) (h_Draw : IsA X.K X.mg "Draw" "Let" false) (h_Late : IsA X.K X.mg "Late" "Let" false) (h_Take : IsA X.K X.mg "Take" "Let" false) (h_Need : IsA X.K X.mg "Need" "Let" false) (hg : Gl X "isinstance") (hm : X.mg "isinstance" = none) (r : RowT) (ha : ED X Γ a (encRow r)) (hgc : Gl X "Let") (he : starEach [a, .Name "Let" p2] X.env = (false, eval a X.env) :: starEach [.Name "Let" p2] X.env := by exact starEach_ns rfl) : ED X Γ (.Call (.Name "isinstance" p) [a, .Name "Let" p2] [] pos) (.bl (RowT.is_Let r)) := by
  cases r with
  | Let x0 x1 => exact ed_isA hg hm ha hgc h_Let (by decide) he
  | Deed x0 x1 => exact ed_isA hg hm ha hgc h_Deed (by decide) he
  | Draw x0 x1 => exact ed_isA hg hm ha hgc h_Draw (by decide) he
  | Late x0 x1 => exact ed_isA hg hm ha hgc h_Late (by decide) he
  | Take x0 x1 x2 => exact ed_isA hg hm ha hgc h_Take (by decide) he
  | Need x0 => exact ed_isA hg hm ha hgc h_Need (by decide) he
def RowT.is_Deed : RowT → Bool
  | .Let _ _ => false
  | .Deed _ _ => true
  | .Draw _ _ => false
  | .Late _ _ => false
  | .Take _ _ _ => false
  | .Need _ => false
theorem RowT.isi_Deed {X : Cx} {Γ : List B} {a : Expr} {pos p p2 : Pos} (h_Let : IsA X.K X.mg "Let" "Deed" false) (h_Deed : IsA X.K X.mg "Deed" "Deed" true) (h_Draw : IsA X.K X.mg "Draw" "Deed" false) (h_Late : IsA X.K X.mg "Late" "Deed" false) (h_Take : IsA X.K X.mg "Take" "Deed" false) (h_Need : IsA X.K X.mg "Need" "Deed" false) (hg : Gl X "isinstance") (hm : X.mg "isinstance" = none) (r : RowT) (ha : ED X Γ a (encRow r)) (hgc : Gl X "Deed") (he : starEach [a, .Name "Deed" p2] X.env = (false, eval a X.env) :: starEach [.Name "Deed" p2] X.env := by exact starEach_ns rfl) : ED X Γ (.Call (.Name "isinstance" p) [a, .Name "Deed" p2] [] pos) (.bl (RowT.is_Deed r)) := by
  cases r with
  | Let x0 x1 => exact ed_isA hg hm ha hgc h_Let (by decide) he
  | Deed x0 x1 => exact ed_isA hg hm ha hgc h_Deed (by decide) he
  | Draw x0 x1 => exact ed_isA hg hm ha hgc h_Draw (by decide) he
  | Late x0 x1 => exact ed_isA hg hm ha hgc h_Late (by decide) he
  | Take x0 x1 x2 => exact ed_isA hg hm ha hgc h_Take (by decide) he
  | Need x0 => exact ed_isA hg hm ha hgc h_Need (by decide) he
def RowT.is_Draw : RowT → Bool
  | .Let _ _ => false
  | .Deed _ _ => false
  | .Draw _ _ => true
  | .Late _ _ => false
  | .Take _ _ _ => false
  | .Need _ => false
theorem RowT.isi_Draw {X : Cx} {Γ : List B} {a : Expr} {pos p p2 : Pos} (h_Let : IsA X.K X.mg "Let" "Draw" false) (h_Deed : IsA X.K X.mg "Deed" "Draw" false) (h_Draw : IsA X.K X.mg "Draw" "Draw" true) (h_Late : IsA X.K X.mg "Late" "Draw" false) (h_Take : IsA X.K X.mg "Take" "Draw" false) (h_Need : IsA X.K X.mg "Need" "Draw" false) (hg : Gl X "isinstance") (hm : X.mg "isinstance" = none) (r : RowT) (ha : ED X Γ a (encRow r)) (hgc : Gl X "Draw") (he : starEach [a, .Name "Draw" p2] X.env = (false, eval a X.env) :: starEach [.Name "Draw" p2] X.env := by exact starEach_ns rfl) : ED X Γ (.Call (.Name "isinstance" p) [a, .Name "Draw" p2] [] pos) (.bl (RowT.is_Draw r)) := by
  cases r with
  | Let x0 x1 => exact ed_isA hg hm ha hgc h_Let (by decide) he
  | Deed x0 x1 => exact ed_isA hg hm ha hgc h_Deed (by decide) he
  | Draw x0 x1 => exact ed_isA hg hm ha hgc h_Draw (by decide) he
  | Late x0 x1 => exact ed_isA hg hm ha hgc h_Late (by decide) he
  | Take x0 x1 x2 => exact ed_isA hg hm ha hgc h_Take (by decide) he
  | Need x0 => exact ed_isA hg hm ha hgc h_Need (by decide) he
def RowT.is_Late : RowT → Bool
  | .Let _ _ => false
  | .Deed _ _ => false
  | .Draw _ _ => false
  | .Late _ _ => true
  | .Take _ _ _ => false
  | .Need _ => false
theorem RowT.isi_Late {X : Cx} {Γ : List B} {a : Expr} {pos p p2 : Pos} (h_Let : IsA X.K X.mg "Let" "Late" false) (h_Deed : IsA X.K X.mg "Deed" "Late" false) (h_Draw : IsA X.K X.mg "Draw" "Late" false) (h_Late : IsA X.K X.mg "Late" "Late" true) (h_Take : IsA X.K X.mg "Take" "Late" false) (h_Need : IsA X.K X.mg "Need" "Late" false) (hg : Gl X "isinstance") (hm : X.mg "isinstance" = none) (r : RowT) (ha : ED X Γ a (encRow r)) (hgc : Gl X "Late") (he : starEach [a, .Name "Late" p2] X.env = (false, eval a X.env) :: starEach [.Name "Late" p2] X.env := by exact starEach_ns rfl) : ED X Γ (.Call (.Name "isinstance" p) [a, .Name "Late" p2] [] pos) (.bl (RowT.is_Late r)) := by
  cases r with
  | Let x0 x1 => exact ed_isA hg hm ha hgc h_Let (by decide) he
  | Deed x0 x1 => exact ed_isA hg hm ha hgc h_Deed (by decide) he
  | Draw x0 x1 => exact ed_isA hg hm ha hgc h_Draw (by decide) he
  | Late x0 x1 => exact ed_isA hg hm ha hgc h_Late (by decide) he
  | Take x0 x1 x2 => exact ed_isA hg hm ha hgc h_Take (by decide) he
  | Need x0 => exact ed_isA hg hm ha hgc h_Need (by decide) he
def RowT.is_Take : RowT → Bool
  | .Let _ _ => false
  | .Deed _ _ => false
  | .Draw _ _ => false
  | .Late _ _ => false
  | .Take _ _ _ => true
  | .Need _ => false
theorem RowT.isi_Take {X : Cx} {Γ : List B} {a : Expr} {pos p p2 : Pos} (h_Let : IsA X.K X.mg "Let" "Take" false) (h_Deed : IsA X.K X.mg "Deed" "Take" false) (h_Draw : IsA X.K X.mg "Draw" "Take" false) (h_Late : IsA X.K X.mg "Late" "Take" false) (h_Take : IsA X.K X.mg "Take" "Take" true) (h_Need : IsA X.K X.mg "Need" "Take" false) (hg : Gl X "isinstance") (hm : X.mg "isinstance" = none) (r : RowT) (ha : ED X Γ a (encRow r)) (hgc : Gl X "Take") (he : starEach [a, .Name "Take" p2] X.env = (false, eval a X.env) :: starEach [.Name "Take" p2] X.env := by exact starEach_ns rfl) : ED X Γ (.Call (.Name "isinstance" p) [a, .Name "Take" p2] [] pos) (.bl (RowT.is_Take r)) := by
  cases r with
  | Let x0 x1 => exact ed_isA hg hm ha hgc h_Let (by decide) he
  | Deed x0 x1 => exact ed_isA hg hm ha hgc h_Deed (by decide) he
  | Draw x0 x1 => exact ed_isA hg hm ha hgc h_Draw (by decide) he
  | Late x0 x1 => exact ed_isA hg hm ha hgc h_Late (by decide) he
  | Take x0 x1 x2 => exact ed_isA hg hm ha hgc h_Take (by decide) he
  | Need x0 => exact ed_isA hg hm ha hgc h_Need (by decide) he
def RowT.is_Need : RowT → Bool
  | .Let _ _ => false
  | .Deed _ _ => false
  | .Draw _ _ => false
  | .Late _ _ => false
  | .Take _ _ _ => false
  | .Need _ => true
theorem RowT.isi_Need {X : Cx} {Γ : List B} {a : Expr} {pos p p2 : Pos} (h_Let : IsA X.K X.mg "Let" "Need" false) (h_Deed : IsA X.K X.mg "Deed" "Need" false) (h_Draw : IsA X.K X.mg "Draw" "Need" false) (h_Late : IsA X.K X.mg "Late" "Need" false) (h_Take : IsA X.K X.mg "Take" "Need" false) (h_Need : IsA X.K X.mg "Need" "Need" true) (hg : Gl X "isinstance") (hm : X.mg "isinstance" = none) (r : RowT) (ha : ED X Γ a (encRow r)) (hgc : Gl X "Need") (he : starEach [a, .Name "Need" p2] X.env = (false, eval a X.env) :: starEach [.Name "Need" p2] X.env := by exact starEach_ns rfl) : ED X Γ (.Call (.Name "isinstance" p) [a, .Name "Need" p2] [] pos) (.bl (RowT.is_Need r)) := by
  cases r with
  | Let x0 x1 => exact ed_isA hg hm ha hgc h_Let (by decide) he
  | Deed x0 x1 => exact ed_isA hg hm ha hgc h_Deed (by decide) he
  | Draw x0 x1 => exact ed_isA hg hm ha hgc h_Draw (by decide) he
  | Late x0 x1 => exact ed_isA hg hm ha hgc h_Late (by decide) he
  | Take x0 x1 x2 => exact ed_isA hg hm ha hgc h_Take (by decide) he
  | Need x0 => exact ed_isA hg hm ha hgc h_Need (by decide) he
def RowT.is_Row : RowT → Bool
  | .Let _ _ => true
  | .Deed _ _ => true
  | .Draw _ _ => true
  | .Late _ _ => true
  | .Take _ _ _ => true
  | .Need _ => true
theorem RowT.isi_Row {X : Cx} {Γ : List B} {a : Expr} {pos p p2 : Pos} (h_Let : IsA X.K X.mg "Let" "Row" true) (h_Deed : IsA X.K X.mg "Deed" "Row" true) (h_Draw : IsA X.K X.mg "Draw" "Row" true) (h_Late : IsA X.K X.mg "Late" "Row" true) (h_Take : IsA X.K X.mg "Take" "Row" true) (h_Need : IsA X.K X.mg "Need" "Row" true) (hg : Gl X "isinstance") (hm : X.mg "isinstance" = none) (r : RowT) (ha : ED X Γ a (encRow r)) (hgc : Gl X "Row") (he : starEach [a, .Name "Row" p2] X.env = (false, eval a X.env) :: starEach [.Name "Row" p2] X.env := by exact starEach_ns rfl) : ED X Γ (.Call (.Name "isinstance" p) [a, .Name "Row" p2] [] pos) (.bl (RowT.is_Row r)) := by
  cases r with
  | Let x0 x1 => exact ed_isA hg hm ha hgc h_Let (by decide) he
  | Deed x0 x1 => exact ed_isA hg hm ha hgc h_Deed (by decide) he
  | Draw x0 x1 => exact ed_isA hg hm ha hgc h_Draw (by decide) he
  | Late x0 x1 => exact ed_isA hg hm ha hgc h_Late (by decide) he
  | Take x0 x1 x2 => exact ed_isA hg hm ha hgc h_Take (by decide) he
  | Need x0 => exact ed_isA hg hm ha hgc h_Need (by decide) he
def isx_HouseError : Str → Option Bool := fun n => List.lookup n ([("HouseError", true), ("NoExpr", true), ("NoText", true)] : List (Str × Bool))
def isx_NoExpr : Str → Option Bool := fun n => List.lookup n ([("HouseError", false), ("NoExpr", true), ("NoText", false)] : List (Str × Bool))
def isx_NoText : Str → Option Bool := fun n => List.lookup n ([("HouseError", false), ("NoExpr", false), ("NoText", true)] : List (Str × Bool))
def isx_ValueError : Str → Option Bool := fun n => List.lookup n ([("HouseError", true), ("NoExpr", true), ("NoText", true)] : List (Str × Bool))
def exf_at : Str → Bool := fun n => decide (n ∈ (["NoText"] : List Str))

abbrev s_NoText___init : Stmt := clsAt (top 3) 0
abbrev nm_NoText___init : List Str := ["self", "at"]
theorem sc_NoText___init : FnScope nm_NoText___init ["self", "at"] (defScope s_NoText___init) := ⟨rfl, rfl, rfl, by decide +kernel, rfl, by decide +kernel, by decide +kernel⟩
theorem lk_NoText___init_HouseError : (defScope s_NoText___init).names.lookup ("HouseError" : Str) = some .globalImplicit := by decide +kernel
theorem lk_NoText___init_at : (defScope s_NoText___init).names.lookup ("at" : Str) = some .local := by decide +kernel
theorem lk_NoText___init_self : (defScope s_NoText___init).names.lookup ("self" : Str) = some .local := by decide +kernel
def xNoText (a0 : Int) : List (Str × D) := [("at", (D.int a0))]
theorem bd_NoText_init (X : Cx) (E : XK) (hX : XOk 0 nm_NoText___init (defScope s_NoText___init) X) (hM : XCm X E) (fx_NoText_at : FldX X.K "NoText" "at") (xm_HouseError : InitB X.K X.mg "HouseError") (a0 : Int) {x C : Addr} (hC : ClsX X.K "NoText" C) : XI0 X x C ([.un, .d (D.int a0)] : List B) (defBody s_NoText___init) (xNoText a0) := (xi0_init hX rfl (vis_l lk_NoText___init_self) xm_HouseError (hX.gl lk_NoText___init_HouseError) hC.ox (xi0_fld hX rfl (vis_l lk_NoText___init_self) hC.ox (fx_NoText_at.no hC) (ed_var 1 (hX.nm rfl) (hX.vs (vis_l lk_NoText___init_at)) rfl) xi1_nil))
abbrev sp_NoText_init (K : PySem.W.Frag) : Sp := spX K "NoText" (A := Int) (fun a => [.d (D.int a)]) (fun a => xNoText a)
theorem ok_NoText_init {P : Program} {w : World} {K : PySem.W.Frag} {mg : Str → Option Value} {base : Heap} {f : Addr} {fd : FuncData} (F : Fun K "__init__" "NoText.__init__" s_NoText___init f fd) (fx_NoText_at : FldX K "NoText" "at") (xm_HouseError : InitB K mg "HouseError") : FnOk P w K mg base (L2.CX P w) 1 f fd ["self", "at"] (sp_NoText_init K) := by
  refine init_okX F sc_NoText___init (fun _ => rfl) (fun a X E e1 e2 e3 e4 e5 hX hM x C hC => ?_)
  subst e1 e2 e3 e4 e5
  exact bd_NoText_init X E hX hM fx_NoText_at xm_HouseError a hC
abbrev s_is_name : Stmt := top 8
abbrev nm_is_name : List Str := ["thing", "sign"]
theorem sc_is_name : FnScope nm_is_name ["thing"] (defScope s_is_name) := ⟨rfl, rfl, rfl, by decide +kernel, rfl, by decide +kernel, by decide +kernel⟩
theorem lk_is_name_LETTERS : (defScope s_is_name).names.lookup ("LETTERS" : Str) = some .globalImplicit := by decide +kernel
theorem lk_is_name_LONGEST : (defScope s_is_name).names.lookup ("LONGEST" : Str) = some .globalImplicit := by decide +kernel
theorem lk_is_name_isinstance : (defScope s_is_name).names.lookup ("isinstance" : Str) = some .globalImplicit := by decide +kernel
theorem lk_is_name_len : (defScope s_is_name).names.lookup ("len" : Str) = some .globalImplicit := by decide +kernel
theorem lk_is_name_sign : (defScope s_is_name).names.lookup ("sign" : Str) = some .local := by decide +kernel
theorem lk_is_name_str : (defScope s_is_name).names.lookup ("str" : Str) = some .globalImplicit := by decide +kernel
theorem lk_is_name_thing : (defScope s_is_name).names.lookup ("thing" : Str) = some .local := by decide +kernel
noncomputable def c_is_name (a0 : (List Nat)) : Co Unit Empty Bool := if ((!true) || (!((decide ((1 : Int) ≤ (a0.length : Int))) && (decide ((a0.length : Int) ≤ (8 : Int)))))) = true then Co.up (.ret (.ok false)) else Co.bind (S := Unit) (coLoop (Y := Nat) (fun (s3 : Unit) (y4 : Nat) => (if (!(decide (y4 ∈ LETTERS))) = true then Co.up (.ret (.ok false)) else .go () : Co (Unit) (Unit) Bool)) () a0) fun s6 => .ret (.ok true)
noncomputable def isNameF (a0 : (List Nat)) : Out Bool := (c_is_name a0).out .stk
theorem bd_is_name (X : Cx) (E : XK) (hX : XOk 0 nm_is_name (defScope s_is_name) X) (hM : XCm X E) (c_LETTERS : ∃ t, X.mg "LETTERS" = some (.str (S LETTERS) t)) (c_LONGEST : ∃ t, X.mg "LONGEST" = some (.int (8 : Int) t)) (m_isinstance : X.mg "isinstance" = none) (m_len : X.mg "len" = none) (m_str : X.mg "str" = none) (a0 : (List Nat)) : BC X E ([.d (D.str a0), .un] : List B) (defBody s_is_name) (fun s : Unit => List.replicate 2 B.un) (fun s : Empty => nomatch s) (fun z : Bool => Res.v (D.bl z)) (c_is_name a0) := by
  unfold c_is_name
  exact (c_ifr (et_w (ew_or (et_not (et_val (ed_isi (hX.gl lk_is_name_isinstance) m_isinstance (ed_var 0 (hX.nm rfl) (hX.vs (vis_l lk_is_name_thing)) rfl) (ed_ty (n := "str") (hX.gl lk_is_name_str) m_str (by decide +kernel)) rfl (by decide +kernel)))) (fun h1 => (ew_or1 (et_not (et_chain (od_le _ _) (od_le _ _) ed_int (ed_lenS (hX.gl lk_is_name_len) m_len (ed_var 0 (hX.nm rfl) (hX.vs (vis_l lk_is_name_thing)) rfl)) (ed_gInt (hX.gl lk_is_name_LONGEST) c_LONGEST))))))) (fun h2 => (c_ret ed_bl rfl)) (fun h2 => (c_for (Γl := (fun s3 : Unit => ([.d (D.str a0), .un] : List B))) (g := (gName 1)) (js := [1]) (fun c => D.str [c]) (fun (s3 : Unit) (y4 : Nat) => (if (!(decide (y4 ∈ LETTERS))) = true then Co.up (.ret (.ok false)) else .go () : Co (Unit) (Unit) Bool)) () a0 (fun (s3 : Unit) (y4 : Nat) => ([.d (D.str a0), .d (D.str [y4])] : List B)) hM hX (.keep (.keep .nil)) (it_str (ed_var 0 (hX.nm rfl) (hX.vs (vis_l lk_is_name_thing)) rfl)) (pg_name (i := 1) hX.nd (hX.nm rfl) (hX.lc (loc_l lk_is_name_sign)) (.inl (hX.fn _))) (fun s3 y4 => (tg_name 1)) (fun s3 y4 => (c_ifr (et_cmp (od_notInS _ _) (ed_var 1 (hX.nm rfl) (hX.vs (vis_l lk_is_name_sign)) rfl) (ed_gStr (hX.gl lk_is_name_LETTERS) c_LETTERS (by decide))) (fun h5 => (c_ret ed_bl rfl)) (fun h5 => (c_nil (.keep (.drop .nil)))))) (fun s6 => (show BC X E ([.d (D.str a0), .un] : List B) _ _ _ _ _ from (c_ret ed_bl rfl))))))
abbrev sp_is_name (K : PySem.W.Frag) : Sp := spG K (A := (List Nat)) (fun a => [.d (D.str a)]) (fun _ => True) (fun a => rsOf (fun z : Bool => Res.v (D.bl z)) (isNameF a))
theorem ok_is_name {P : Program} {w : World} {K : PySem.W.Frag} {mg : Str → Option Value} {base : Heap} {f : Addr} {fd : FuncData} (F : Fun K "is_name" "is_name" s_is_name f fd) (c_LETTERS : ∃ t, mg "LETTERS" = some (.str (S LETTERS) t)) (c_LONGEST : ∃ t, mg "LONGEST" = some (.int (8 : Int) t)) (m_isinstance : mg "isinstance" = none) (m_len : mg "len" = none) (m_str : mg "str" = none) : FnOk P w K mg base (L2.CX P w) 1 f fd ["thing"] (sp_is_name K) :=
  def_okC (A := (List Nat)) F sc_is_name .stk (.inl rfl) (fun _ => rfl) (fun a => c_is_name a) (fun a X E e1 e2 e3 e4 e5 hX hM => by
    subst e1 e2 e3 e4 e5
    exact bd_is_name X E hX hM c_LETTERS c_LONGEST m_isinstance m_len m_str a)
abbrev s_are_names : Stmt := top 9
abbrev nm_are_names : List Str := ["words", "most", "word"]
theorem sc_are_names : FnScope nm_are_names ["words", "most"] (defScope s_are_names) := ⟨rfl, rfl, rfl, by decide +kernel, rfl, by decide +kernel, by decide +kernel⟩
theorem lk_are_names_is_name : (defScope s_are_names).names.lookup ("is_name" : Str) = some .globalImplicit := by decide +kernel
theorem lk_are_names_len : (defScope s_are_names).names.lookup ("len" : Str) = some .globalImplicit := by decide +kernel
theorem lk_are_names_most : (defScope s_are_names).names.lookup ("most" : Str) = some .local := by decide +kernel
theorem lk_are_names_word : (defScope s_are_names).names.lookup ("word" : Str) = some .local := by decide +kernel
theorem lk_are_names_words : (defScope s_are_names).names.lookup ("words" : Str) = some .local := by decide +kernel
noncomputable def c_are_names (a0 : (List (List Nat))) (a1 : Int) : Co Unit Empty Bool := if (!((decide ((1 : Int) ≤ (a0.length : Int))) && (decide ((a0.length : Int) ≤ a1)))) = true then Co.up (.ret (.ok false)) else Co.bind (S := Unit) (coLoop (Y := (List Nat)) (fun (s2 : Unit) (y3 : (List Nat)) => (chk ((((isNameF y3)).IsOk)) (if (!((isNameF y3).get false)) = true then Co.up (.ret (.ok false)) else .go ()) : Co (Unit) (Unit) Bool)) () a0) fun s7 => .ret (.ok true)
noncomputable def areNamesF (a0 : (List (List Nat))) (a1 : Int) : Out Bool := (c_are_names a0 a1).out .stk
theorem bd_are_names (X : Cx) (E : XK) (hX : XOk 1 nm_are_names (defScope s_are_names) X) (hM : XCm X E) (m_len : X.mg "len" = none) (kn_is_name : KnX X "is_name" 1 (sp_is_name X.K)) (a0 : (List (List Nat))) (a1 : Int) : BC X E ([.d (D.lst (List.map D.str a0)), .d (D.int a1), .un] : List B) (defBody s_are_names) (fun s : Unit => List.replicate 3 B.un) (fun s : Empty => nomatch s) (fun z : Bool => Res.v (D.bl z)) (c_are_names a0 a1) := by
  unfold c_are_names
  exact (c_ifr (et_not (et_chain (od_le _ _) (od_le _ _) ed_int (ed_lenM (hX.gl lk_are_names_len) m_len (EvD.el (ed_var 0 (hX.nm rfl) (hX.vs (vis_l lk_are_names_words)) rfl))) (ed_var 1 (hX.nm rfl) (hX.vs (vis_l lk_are_names_most)) rfl))) (fun h1 => (c_ret ed_bl rfl)) (fun h1 => (c_for (Γl := (fun s2 : Unit => ([.d (D.lst (List.map D.str a0)), .d (D.int a1), .un] : List B))) (g := (gName 2)) (js := [2]) D.str (fun (s2 : Unit) (y3 : (List Nat)) => (chk ((((isNameF y3)).IsOk)) (if (!((isNameF y3).get false)) = true then Co.up (.ret (.ok false)) else .go ()) : Co (Unit) (Unit) Bool)) () a0 (fun (s2 : Unit) (y3 : (List Nat)) => ([.d (D.lst (List.map D.str a0)), .d (D.int a1), .d (D.str y3)] : List B)) hM hX (.keep (.keep (.keep .nil))) (it_lst (ed_var 0 (hX.nm rfl) (hX.vs (vis_l lk_are_names_words)) rfl)) (pg_name (i := 2) hX.nd (hX.nm rfl) (hX.lc (loc_l lk_are_names_word)) (.inl (hX.fn _))) (fun s2 y3 => (tg_name 2)) (fun s2 y3 => (c_chk (fun h6 => (have c4 := h6; (c_ifr (et_not (et_val (ed_okS (z := D.bl) false (fun E tk => (es_call (E := E) y3 tk kn_is_name (hM.room hX (by decide)) (hX.gl lk_are_names_is_name) (ea2_d (ed_var 2 (hX.nm rfl) (hX.vs (vis_l lk_are_names_word)) rfl) ea2_nil) trivial)) (fun _ => rfl) c4))) (fun h5 => (c_ret ed_bl rfl)) (fun h5 => (c_nil (.keep (.keep (.drop .nil)))))))))) (fun s7 => (show BC X E ([.d (D.lst (List.map D.str a0)), .d (D.int a1), .un] : List B) _ _ _ _ _ from (c_ret ed_bl rfl))))))
abbrev sp_are_names (K : PySem.W.Frag) : Sp := spG K (A := (List (List Nat)) × Int) (fun a => [.d (D.lst (List.map D.str a.1)), .d (D.int a.2)]) (fun _ => True) (fun a => rsOf (fun z : Bool => Res.v (D.bl z)) (areNamesF a.1 a.2))
theorem ok_are_names {P : Program} {w : World} {K : PySem.W.Frag} {mg : Str → Option Value} {base : Heap} {f : Addr} {fd : FuncData} (F : Fun K "are_names" "are_names" s_are_names f fd) (m_len : mg "len" = none) (kn_is_name : Kn P w K mg base "is_name" 1 (sp_is_name K)) : FnOk P w K mg base (L2.CX P w) 2 f fd ["words", "most"] (sp_are_names K) :=
  def_okC (A := (List (List Nat)) × Int) F sc_are_names .stk (.inl rfl) (fun _ => rfl) (fun a => c_are_names a.1 a.2) (fun a X E e1 e2 e3 e4 e5 hX hM => by
    subst e1 e2 e3 e4 e5
    exact bd_are_names X E hX hM m_len kn_is_name a.1 a.2)
abbrev s_is_address : Stmt := top 10
abbrev nm_is_address : List Str := ["thing"]
theorem sc_is_address : FnScope nm_is_address ["thing"] (defScope s_is_address) := ⟨rfl, rfl, rfl, by decide +kernel, rfl, by decide +kernel, by decide +kernel⟩
theorem lk_is_address_DEEPEST : (defScope s_is_address).names.lookup ("DEEPEST" : Str) = some .globalImplicit := by decide +kernel
theorem lk_is_address_are_names : (defScope s_is_address).names.lookup ("are_names" : Str) = some .globalImplicit := by decide +kernel
theorem lk_is_address_isinstance : (defScope s_is_address).names.lookup ("isinstance" : Str) = some .globalImplicit := by decide +kernel
theorem lk_is_address_str : (defScope s_is_address).names.lookup ("str" : Str) = some .globalImplicit := by decide +kernel
theorem lk_is_address_thing : (defScope s_is_address).names.lookup ("thing" : Str) = some .local := by decide +kernel
noncomputable def c_is_address (a0 : (List Nat)) : Co Unit Empty Bool := chk ((true = true → (((areNamesF (splitS a0 [46]) (3 : Int))).IsOk))) (.ret (.ok (true && ((areNamesF (splitS a0 [46]) (3 : Int)).get false))))
noncomputable def isAddressF (a0 : (List Nat)) : Out Bool := (c_is_address a0).out .stk
theorem bd_is_address (X : Cx) (E : XK) (hX : XOk 2 nm_is_address (defScope s_is_address) X) (hM : XCm X E) (c_DEEPEST : ∃ t, X.mg "DEEPEST" = some (.int (3 : Int) t)) (m_isinstance : X.mg "isinstance" = none) (m_str : X.mg "str" = none) (kn_are_names : KnX X "are_names" 2 (sp_are_names X.K)) (a0 : (List Nat)) : BC X E ([.d (D.str a0)] : List B) (defBody s_is_address) (fun s : Unit => List.replicate 1 B.un) (fun s : Empty => nomatch s) (fun z : Bool => Res.v (D.bl z)) (c_is_address a0) := by
  unfold c_is_address
  exact (c_chk (fun h4 => (have c3 := h4; (c_ret (ed_and (ed_isi (hX.gl lk_is_address_isinstance) m_isinstance (ed_var 0 (hX.nm rfl) (hX.vs (vis_l lk_is_address_thing)) rfl) (ed_ty (n := "str") (hX.gl lk_is_address_str) m_str (by decide +kernel)) rfl (by decide +kernel)) (fun h2 => (have c1 := (c3 h2); (ed_one (ed_okS (z := D.bl) false (fun E tk => (es_call (E := E) (((splitS a0 [46]), (3 : Int)) : (List (List Nat)) × Int) tk kn_are_names (hM.room hX (by decide)) (hX.gl lk_is_address_are_names) (ea2_d (EvO.frz (eo_split (ed_var 0 (hX.nm rfl) (hX.vs (vis_l lk_is_address_thing)) rfl) (ed_str [46] (by decide +kernel) (by decide)) (by decide))) (ea2_d (ed_gInt (hX.gl lk_is_address_DEEPEST) c_DEEPEST) ea2_nil)) trivial)) (fun _ => rfl) c1))))) rfl))))
abbrev sp_is_address (K : PySem.W.Frag) : Sp := spG K (A := (List Nat)) (fun a => [.d (D.str a)]) (fun _ => True) (fun a => rsOf (fun z : Bool => Res.v (D.bl z)) (isAddressF a))
theorem ok_is_address {P : Program} {w : World} {K : PySem.W.Frag} {mg : Str → Option Value} {base : Heap} {f : Addr} {fd : FuncData} (F : Fun K "is_address" "is_address" s_is_address f fd) (c_DEEPEST : ∃ t, mg "DEEPEST" = some (.int (3 : Int) t)) (m_isinstance : mg "isinstance" = none) (m_str : mg "str" = none) (kn_are_names : Kn P w K mg base "are_names" 2 (sp_are_names K)) : FnOk P w K mg base (L2.CX P w) 3 f fd ["thing"] (sp_is_address K) :=
  def_okC (A := (List Nat)) F sc_is_address .stk (.inl rfl) (fun _ => rfl) (fun a => c_is_address a) (fun a X E e1 e2 e3 e4 e5 hX hM => by
    subst e1 e2 e3 e4 e5
    exact bd_is_address X E hX hM c_DEEPEST m_isinstance m_str kn_are_names a)
abbrev s_is_written : Stmt := top 16
abbrev nm_is_written : List Str := ["word", "sign"]
theorem sc_is_written : FnScope nm_is_written ["word"] (defScope s_is_written) := ⟨rfl, rfl, rfl, by decide +kernel, rfl, by decide +kernel, by decide +kernel⟩
theorem lk_is_written_FIGURES : (defScope s_is_written).names.lookup ("FIGURES" : Str) = some .globalImplicit := by decide +kernel
theorem lk_is_written_MOST_FIGURES : (defScope s_is_written).names.lookup ("MOST_FIGURES" : Str) = some .globalImplicit := by decide +kernel
theorem lk_is_written_len : (defScope s_is_written).names.lookup ("len" : Str) = some .globalImplicit := by decide +kernel
theorem lk_is_written_sign : (defScope s_is_written).names.lookup ("sign" : Str) = some .local := by decide +kernel
theorem lk_is_written_word : (defScope s_is_written).names.lookup ("word" : Str) = some .local := by decide +kernel
noncomputable def c_is_written (a0 : (List Nat)) : Co Unit Empty Bool := if (!((decide ((1 : Int) ≤ (a0.length : Int))) && (decide ((a0.length : Int) ≤ (20 : Int))))) = true then Co.up (.ret (.ok false)) else Co.bind (S := Unit) (coLoop (Y := Nat) (fun (s2 : Unit) (y3 : Nat) => (if (!(decide (y3 ∈ FIGURES))) = true then Co.up (.ret (.ok false)) else .go () : Co (Unit) (Unit) Bool)) () a0) fun s5 => chk (((decide (a0 = ([48] : List Nat))) = false → (-((a0).length : Int) ≤ (0 : Int) ∧ (0 : Int) < ((a0).length : Int)))) (.ret (.ok ((decide (a0 = ([48] : List Nat))) || (!(decide ([(ix a0 (0 : Int) 0)] = ([48] : List Nat)))))))
noncomputable def writtenF (a0 : (List Nat)) : Out Bool := (c_is_written a0).out .stk
theorem bd_is_written (X : Cx) (E : XK) (hX : XOk 0 nm_is_written (defScope s_is_written) X) (hM : XCm X E) (c_FIGURES : ∃ t, X.mg "FIGURES" = some (.str (S FIGURES) t)) (c_MOST_FIGURES : ∃ t, X.mg "MOST_FIGURES" = some (.int (20 : Int) t)) (m_len : X.mg "len" = none) (a0 : (List Nat)) : BC X E ([.d (D.str a0), .un] : List B) (defBody s_is_written) (fun s : Unit => List.replicate 2 B.un) (fun s : Empty => nomatch s) (fun z : Bool => Res.v (D.bl z)) (c_is_written a0) := by
  unfold c_is_written
  exact (c_ifr (et_not (et_chain (od_le _ _) (od_le _ _) ed_int (ed_lenS (hX.gl lk_is_written_len) m_len (ed_var 0 (hX.nm rfl) (hX.vs (vis_l lk_is_written_word)) rfl)) (ed_gInt (hX.gl lk_is_written_MOST_FIGURES) c_MOST_FIGURES))) (fun h1 => (c_ret ed_bl rfl)) (fun h1 => (c_for (Γl := (fun s2 : Unit => ([.d (D.str a0), .un] : List B))) (g := (gName 1)) (js := [1]) (fun c => D.str [c]) (fun (s2 : Unit) (y3 : Nat) => (if (!(decide (y3 ∈ FIGURES))) = true then Co.up (.ret (.ok false)) else .go () : Co (Unit) (Unit) Bool)) () a0 (fun (s2 : Unit) (y3 : Nat) => ([.d (D.str a0), .d (D.str [y3])] : List B)) hM hX (.keep (.keep .nil)) (it_str (ed_var 0 (hX.nm rfl) (hX.vs (vis_l lk_is_written_word)) rfl)) (pg_name (i := 1) hX.nd (hX.nm rfl) (hX.lc (loc_l lk_is_written_sign)) (.inl (hX.fn _))) (fun s2 y3 => (tg_name 1)) (fun s2 y3 => (c_ifr (et_cmp (od_notInS _ _) (ed_var 1 (hX.nm rfl) (hX.vs (vis_l lk_is_written_sign)) rfl) (ed_gStr (hX.gl lk_is_written_FIGURES) c_FIGURES (by decide))) (fun h4 => (c_ret ed_bl rfl)) (fun h4 => (c_nil (.keep (.drop .nil)))))) (fun s5 => (show BC X E ([.d (D.str a0), .un] : List B) _ _ _ _ _ from (c_chk (fun h9 => (have c8 := h9; (c_ret (ed_or (ed_cmp (od_eqS _ _) (ed_var 0 (hX.nm rfl) (hX.vs (vis_l lk_is_written_word)) rfl) (ed_str ([48] : List Nat) (by decide +kernel) (by decide))) (fun h7 => (have c6 := (c8 h7); (ed_one (ed_cmp (od_neS _ _) (ed_ixS (ed_var 0 (hX.nm rfl) (hX.vs (vis_l lk_is_written_word)) rfl) ed_int (ix_ok (d := 0) c6)) (ed_str ([48] : List Nat) (by decide +kernel) (by decide))))))) rfl)))))))))
abbrev sp_is_written (K : PySem.W.Frag) : Sp := spG K (A := (List Nat)) (fun a => [.d (D.str a)]) (fun _ => True) (fun a => rsOf (fun z : Bool => Res.v (D.bl z)) (writtenF a))
theorem ok_is_written {P : Program} {w : World} {K : PySem.W.Frag} {mg : Str → Option Value} {base : Heap} {f : Addr} {fd : FuncData} (F : Fun K "is_written" "is_written" s_is_written f fd) (c_FIGURES : ∃ t, mg "FIGURES" = some (.str (S FIGURES) t)) (c_MOST_FIGURES : ∃ t, mg "MOST_FIGURES" = some (.int (20 : Int) t)) (m_len : mg "len" = none) : FnOk P w K mg base (L2.CX P w) 1 f fd ["word"] (sp_is_written K) :=
  def_okC (A := (List Nat)) F sc_is_written .stk (.inl rfl) (fun _ => rfl) (fun a => c_is_written a) (fun a X E e1 e2 e3 e4 e5 hX hM => by
    subst e1 e2 e3 e4 e5
    exact bd_is_written X E hX hM c_FIGURES c_MOST_FIGURES m_len a)
abbrev s_sign_of : Stmt := top 17
abbrev nm_sign_of : List Str := ["word"]
theorem sc_sign_of : FnScope nm_sign_of ["word"] (defScope s_sign_of) := ⟨rfl, rfl, rfl, by decide +kernel, rfl, by decide +kernel, by decide +kernel⟩
theorem lk_sign_of_NoExpr : (defScope s_sign_of).names.lookup ("NoExpr" : Str) = some .globalImplicit := by decide +kernel
theorem lk_sign_of_word : (defScope s_sign_of).names.lookup ("word" : Str) = some .local := by decide +kernel
noncomputable def c_sign_of (a0 : (List Nat)) : Co Unit Empty Int := if (decide (a0 = ([43] : List Nat))) = true then Co.up (.ret (.ok (1 : Int))) else if (decide (a0 = ([45] : List Nat))) = true then Co.up (.ret (.ok (-(1 : Int)))) else .ret (.err ⟨"NoExpr", []⟩)
noncomputable def signF (a0 : (List Nat)) : Out Int := (c_sign_of a0).out .stk
theorem bd_sign_of (X : Cx) (E : XK) (hX : XOk 0 nm_sign_of (defScope s_sign_of) X) (hM : XCm X E) (x_NoExpr : ExC X.K X.mg "NoExpr") (a0 : (List Nat)) : BC X E ([.d (D.str a0)] : List B) (defBody s_sign_of) (fun s : Unit => List.replicate 1 B.un) (fun s : Empty => nomatch s) (fun z : Int => Res.v (D.int z)) (c_sign_of a0) := by
  unfold c_sign_of
  exact (c_ifr (et_cmp (od_eqS _ _) (ed_var 0 (hX.nm rfl) (hX.vs (vis_l lk_sign_of_word)) rfl) (ed_str ([43] : List Nat) (by decide +kernel) (by decide))) (fun h1 => (c_ret ed_int rfl)) (fun h1 => (c_ifr (et_cmp (od_eqS _ _) (ed_var 0 (hX.nm rfl) (hX.vs (vis_l lk_sign_of_word)) rfl) (ed_str ([45] : List Nat) (by decide +kernel) (by decide))) (fun h2 => (c_ret (ed_neg ed_int) rfl)) (fun h2 => (b_raise hM hX x_NoExpr (hX.gl lk_sign_of_NoExpr))))))
abbrev sp_sign_of (K : PySem.W.Frag) : Sp := spG K (A := (List Nat)) (fun a => [.d (D.str a)]) (fun _ => True) (fun a => rsOf (fun z : Int => Res.v (D.int z)) (signF a))
theorem ok_sign_of {P : Program} {w : World} {K : PySem.W.Frag} {mg : Str → Option Value} {base : Heap} {f : Addr} {fd : FuncData} (F : Fun K "sign_of" "sign_of" s_sign_of f fd) (x_NoExpr : ExC K mg "NoExpr") : FnOk P w K mg base (L2.CX P w) 1 f fd ["word"] (sp_sign_of K) :=
  def_okC (A := (List Nat)) F sc_sign_of .stk (.inl rfl) (fun _ => rfl) (fun a => c_sign_of a) (fun a X E e1 e2 e3 e4 e5 hX hM => by
    subst e1 e2 e3 e4 e5
    exact bd_sign_of X E hX hM x_NoExpr a)
abbrev s_thing_of : Stmt := top 18
abbrev nm_thing_of : List Str := ["word", "sort", "path", "names"]
theorem sc_thing_of : FnScope nm_thing_of ["word"] (defScope s_thing_of) := ⟨rfl, rfl, rfl, by decide +kernel, rfl, by decide +kernel, by decide +kernel⟩
theorem lk_thing_of_MOST_NAMES : (defScope s_thing_of).names.lookup ("MOST_NAMES" : Str) = some .globalImplicit := by decide +kernel
theorem lk_thing_of_NoExpr : (defScope s_thing_of).names.lookup ("NoExpr" : Str) = some .globalImplicit := by decide +kernel
theorem lk_thing_of_are_names : (defScope s_thing_of).names.lookup ("are_names" : Str) = some .globalImplicit := by decide +kernel
theorem lk_thing_of_int : (defScope s_thing_of).names.lookup ("int" : Str) = some .globalImplicit := by decide +kernel
theorem lk_thing_of_is_written : (defScope s_thing_of).names.lookup ("is_written" : Str) = some .globalImplicit := by decide +kernel
theorem lk_thing_of_names : (defScope s_thing_of).names.lookup ("names" : Str) = some .local := by decide +kernel
theorem lk_thing_of_path : (defScope s_thing_of).names.lookup ("path" : Str) = some .local := by decide +kernel
theorem lk_thing_of_sort : (defScope s_thing_of).names.lookup ("sort" : Str) = some .local := by decide +kernel
theorem lk_thing_of_tuple : (defScope s_thing_of).names.lookup ("tuple" : Str) = some .globalImplicit := by decide +kernel
theorem lk_thing_of_word : (defScope s_thing_of).names.lookup ("word" : Str) = some .local := by decide +kernel
noncomputable def c_thing_of (a0 : (List Nat)) : Co Unit Empty ((List Nat) × Thing) := chk ((((writtenF a0)).IsOk)) (if ((writtenF a0).get false) = true then Co.up (chk ((NumText.AllDigits a0) ∧ (a0 ≠ []) ∧ (a0.length ≤ 640)) (.ret (.ok ((([110, 117, 109, 98, 101, 114] : List Nat), (natOf a0)).1, (Thing.num (([110, 117, 109, 98, 101, 114] : List Nat), (natOf a0)).2))))) else bnd (([112, 97, 116, 104] : List Nat) : (List Nat)) fun v7 => bnd (a0 : (List Nat)) fun v8 => Co.bind (S := (List Nat) × (List Nat)) (if (decide ((cutL a0 (some (-(2 : Int))) none) = ([40, 41] : List Nat))) = true then bnd (([99, 97, 108, 108] : List Nat) : (List Nat)) fun v10 => bnd ((cutL a0 none (some (-(2 : Int)))) : (List Nat)) fun v11 => .go (v10, v11) else .go (v7, v8)) fun s12 => bnd ((splitS s12.2 [46]) : (List (List Nat))) fun v13 => chk ((((areNamesF v13 (4 : Int))).IsOk)) (if (!((areNamesF v13 (4 : Int)).get false)) = true then Co.up (.ret (.err ⟨"NoExpr", []⟩)) else .ret (.ok ((s12.1, v13).1, (Thing.path (s12.1, v13).2)))))
noncomputable def thingF (a0 : (List Nat)) : Out ((List Nat) × Thing) := (c_thing_of a0).out .stk
theorem bd_thing_of (X : Cx) (E : XK) (hX : XOk 2 nm_thing_of (defScope s_thing_of) X) (hM : XCm X E) (c_MOST_NAMES : ∃ t, X.mg "MOST_NAMES" = some (.int (4 : Int) t)) (x_NoExpr : ExC X.K X.mg "NoExpr") (m_int : X.mg "int" = none) (m_tuple : X.mg "tuple" = none) (kn_are_names : KnX X "are_names" 2 (sp_are_names X.K)) (kn_is_written : KnX X "is_written" 1 (sp_is_written X.K)) (a0 : (List Nat)) : BC X E ([.d (D.str a0), .un, .un, .un] : List B) (defBody s_thing_of) (fun s : Unit => List.replicate 4 B.un) (fun s : Empty => nomatch s) (fun z : ((List Nat) × Thing) => Res.v (D.tup [(D.str z.1), (encThing z.2)])) (c_thing_of a0) := by
  unfold c_thing_of
  exact (c_chk (fun h17 => (have c1 := h17; (c_ifr (et_val (ed_okS (z := D.bl) false (fun E tk => (es_call (E := E) a0 tk kn_is_written (hM.room hX (by decide)) (hX.gl lk_thing_of_is_written) (ea2_d (ed_var 0 (hX.nm rfl) (hX.vs (vis_l lk_thing_of_word)) rfl) ea2_nil) trivial)) (fun _ => rfl) c1)) (fun h2 => (c_chk (fun h6 => (have ⟨c3, c4, c5⟩ := h6; (c_ret (ed_tup (ea_cons (ed_str ([110, 117, 109, 98, 101, 114] : List Nat) (by decide +kernel) (by decide)) (ea_cons (ed_intS (hX.gl lk_thing_of_int) m_int (ed_var 0 (hX.nm rfl) (hX.vs (vis_l lk_thing_of_word)) rfl) c3 c4 c5) ea_nil)) (by show 2 ≤ sizeLine; decide)) rfl))))) (fun h2 => (c_set 1 D.str hX rfl (loc_l lk_thing_of_sort) (ed_str ([112, 97, 116, 104] : List Nat) (by decide +kernel) (by decide)) (fun v7 hv7 => (show BC X E ([.d (D.str a0), .d (D.str v7), .un, .un] : List B) _ _ _ _ _ from (c_set 2 D.str hX rfl (loc_l lk_thing_of_path) (ed_var 0 (hX.nm rfl) (hX.vs (vis_l lk_thing_of_word)) rfl) (fun v8 hv8 => (show BC X E ([.d (D.str a0), .d (D.str v7), .d (D.str v8), .un] : List B) _ _ _ _ _ from (c_ifj (Γj := (fun s12 : (List Nat) × (List Nat) => ([.d (D.str a0), .d (D.str s12.1), .d (D.str s12.2), .un] : List B))) (et_cmp (od_eqS _ _) (ed_slS (ed_var 0 (hX.nm rfl) (hX.vs (vis_l lk_thing_of_word)) rfl) (ep_some (ed_neg ed_int)) ep_none) (ed_str ([40, 41] : List Nat) (by decide +kernel) (by decide))) (fun h9 => (c_set 1 D.str hX rfl (loc_l lk_thing_of_sort) (ed_str ([99, 97, 108, 108] : List Nat) (by decide +kernel) (by decide)) (fun v10 hv10 => (show BC X E ([.d (D.str a0), .d (D.str v10), .d (D.str v8), .un] : List B) _ _ _ _ _ from (c_set 2 D.str hX rfl (loc_l lk_thing_of_path) (ed_slS (ed_var 0 (hX.nm rfl) (hX.vs (vis_l lk_thing_of_word)) rfl) ep_none (ep_some (ed_neg ed_int))) (fun v11 hv11 => (show BC X E ([.d (D.str a0), .d (D.str v10), .d (D.str v11), .un] : List B) _ _ _ _ _ from (c_nil (.keep (.keep (.keep (.keep .nil)))))))))))) (fun h9 => (c_nil (.keep (.keep (.keep (.keep .nil)))))) (fun s12 => (c_setO 3 (fun z : (List (List Nat)) => OO.lst (List.map D.str z)) hX rfl (loc_l lk_thing_of_names) (eo_split (ed_var 2 (hX.nm rfl) (hX.vs (vis_l lk_thing_of_path)) rfl) (ed_str [46] (by decide +kernel) (by decide)) (by decide)) (fun v13 hv13 => (show BC X E ([.d (D.str a0), .d (D.str s12.1), .d (D.str s12.2), .own (.lst (List.map D.str v13))] : List B) _ _ _ _ _ from (c_chk (fun h16 => (have c14 := h16; (c_ifr (et_lend 3 rfl (show ET X ([.d (D.str a0), .d (D.str s12.1), .d (D.str s12.2), .d (D.lst (List.map D.str v13))] : List B) _ _ from (et_not (et_val (ed_okS (z := D.bl) false (fun E tk => (es_call (E := E) ((v13, (4 : Int)) : (List (List Nat)) × Int) tk kn_are_names (hM.room hX (by decide)) (hX.gl lk_thing_of_are_names) (ea2_d (ed_var 3 (hX.nm rfl) (hX.vs (vis_l lk_thing_of_names)) rfl) (ea2_d (ed_gInt (hX.gl lk_thing_of_MOST_NAMES) c_MOST_NAMES) ea2_nil)) trivial)) (fun _ => rfl) c14))))) (fun h15 => (b_raise hM hX x_NoExpr (hX.gl lk_thing_of_NoExpr))) (fun h15 => (c_ret (ed_tup (ea_cons (ed_var 1 (hX.nm rfl) (hX.vs (vis_l lk_thing_of_sort)) rfl) (ea_cons (ed_tupM (hX.gl lk_thing_of_tuple) m_tuple (el_own 3 (hX.nm rfl) (hX.vs (vis_l lk_thing_of_names)) rfl)) ea_nil)) (by show 2 ≤ sizeLine; decide)) rfl))))))))))))))))))))))
abbrev sp_thing_of (K : PySem.W.Frag) : Sp := spG K (A := (List Nat)) (fun a => [.d (D.str a)]) (fun _ => True) (fun a => rsOf (fun z : ((List Nat) × Thing) => Res.v (D.tup [(D.str z.1), (encThing z.2)])) (thingF a))
theorem ok_thing_of {P : Program} {w : World} {K : PySem.W.Frag} {mg : Str → Option Value} {base : Heap} {f : Addr} {fd : FuncData} (F : Fun K "thing_of" "thing_of" s_thing_of f fd) (c_MOST_NAMES : ∃ t, mg "MOST_NAMES" = some (.int (4 : Int) t)) (x_NoExpr : ExC K mg "NoExpr") (m_int : mg "int" = none) (m_tuple : mg "tuple" = none) (kn_are_names : Kn P w K mg base "are_names" 2 (sp_are_names K)) (kn_is_written : Kn P w K mg base "is_written" 1 (sp_is_written K)) : FnOk P w K mg base (L2.CX P w) 3 f fd ["word"] (sp_thing_of K) :=
  def_okC (A := (List Nat)) F sc_thing_of .stk (.inl rfl) (fun _ => rfl) (fun a => c_thing_of a) (fun a X E e1 e2 e3 e4 e5 hX hM => by
    subst e1 e2 e3 e4 e5
    exact bd_thing_of X E hX hM c_MOST_NAMES x_NoExpr m_int m_tuple kn_are_names kn_is_written a)
abbrev s_read_expr : Stmt := top 19
abbrev nm_read_expr : List Str := ["text", "words", "terms", "k", "sign", "sort", "thing"]
theorem sc_read_expr : FnScope nm_read_expr ["text"] (defScope s_read_expr) := ⟨rfl, rfl, rfl, by decide +kernel, rfl, by decide +kernel, by decide +kernel⟩
theorem lk_read_expr_MOST_TERMS : (defScope s_read_expr).names.lookup ("MOST_TERMS" : Str) = some .globalImplicit := by decide +kernel
theorem lk_read_expr_NoExpr : (defScope s_read_expr).names.lookup ("NoExpr" : Str) = some .globalImplicit := by decide +kernel
theorem lk_read_expr_isinstance : (defScope s_read_expr).names.lookup ("isinstance" : Str) = some .globalImplicit := by decide +kernel
theorem lk_read_expr_k : (defScope s_read_expr).names.lookup ("k" : Str) = some .local := by decide +kernel
theorem lk_read_expr_len : (defScope s_read_expr).names.lookup ("len" : Str) = some .globalImplicit := by decide +kernel
theorem lk_read_expr_range : (defScope s_read_expr).names.lookup ("range" : Str) = some .globalImplicit := by decide +kernel
theorem lk_read_expr_sign : (defScope s_read_expr).names.lookup ("sign" : Str) = some .local := by decide +kernel
theorem lk_read_expr_sign_of : (defScope s_read_expr).names.lookup ("sign_of" : Str) = some .globalImplicit := by decide +kernel
theorem lk_read_expr_sort : (defScope s_read_expr).names.lookup ("sort" : Str) = some .local := by decide +kernel
theorem lk_read_expr_str : (defScope s_read_expr).names.lookup ("str" : Str) = some .globalImplicit := by decide +kernel
theorem lk_read_expr_terms : (defScope s_read_expr).names.lookup ("terms" : Str) = some .local := by decide +kernel
theorem lk_read_expr_text : (defScope s_read_expr).names.lookup ("text" : Str) = some .local := by decide +kernel
theorem lk_read_expr_thing : (defScope s_read_expr).names.lookup ("thing" : Str) = some .local := by decide +kernel
theorem lk_read_expr_thing_of : (defScope s_read_expr).names.lookup ("thing_of" : Str) = some .globalImplicit := by decide +kernel
theorem lk_read_expr_words : (defScope s_read_expr).names.lookup ("words" : Str) = some .local := by decide +kernel
noncomputable def c_read_expr (a0 : (List Nat)) : Co Unit Empty (List (Int × (List Nat) × Thing)) := if (!true) = true then Co.up (.ret .stk) else bnd ((splitS a0 [32]) : (List (List Nat))) fun v2 => if ((decide (((v2.length : Int) % (2 : Int)) = (0 : Int))) || (decide ((((2 : Int) * (6 : Int)) - (1 : Int)) < (v2.length : Int)))) = true then Co.up (.ret (.err ⟨"NoExpr", []⟩)) else bnd (([] : List (Int × (List Nat) × Thing)) : (List (Int × (List Nat) × Thing))) fun v5 => chk ((Builtin.Range.small (0 : Int) (v2.length : Int) (2 : Int) = true)) (Co.bind (S := (List (Int × (List Nat) × Thing))) (coLoop (Y := Int) (fun (s7 : (List (Int × (List Nat) × Thing))) (y8 : Int) => (bnd ((1 : Int) : Int) fun v9 => Co.bind (S := Int) (if (decide ((0 : Int) < y8)) = true then chk ((-((v2).length : Int) ≤ (y8 - (1 : Int)) ∧ (y8 - (1 : Int)) < ((v2).length : Int))) (bndO ((signF (ix v2 (y8 - (1 : Int)) [])) : Out Int) fun v11 => .go v11) else .go v9) fun s14 => chk ((-((v2).length : Int) ≤ y8 ∧ y8 < ((v2).length : Int))) (bndO ((thingF (ix v2 y8 [])) : Out ((List Nat) × Thing)) fun v15 => chk ((s7.length < sizeLine)) (bnd (s7 ++ [(s14, v15.1, v15.2)] : (List (Int × (List Nat) × Thing))) fun v17 => .go v17)) : Co ((List (Int × (List Nat) × Thing))) ((List (Int × (List Nat) × Thing))) (List (Int × (List Nat) × Thing)))) v5 (rintsS (0 : Int) (2 : Int) (rngN (0 : Int) (v2.length : Int) (2 : Int)))) fun s21 => .ret (.ok s21))
noncomputable def readF (a0 : (List Nat)) : Out (List (Int × (List Nat) × Thing)) := (c_read_expr a0).out .stk
theorem bd_read_expr (X : Cx) (E : XK) (hX : XOk 3 nm_read_expr (defScope s_read_expr) X) (hM : XCm X E) (c_MOST_TERMS : ∃ t, X.mg "MOST_TERMS" = some (.int (6 : Int) t)) (x_NoExpr : ExC X.K X.mg "NoExpr") (m_isinstance : X.mg "isinstance" = none) (m_len : X.mg "len" = none) (m_range : X.mg "range" = none) (m_str : X.mg "str" = none) (kn_sign_of : KnX X "sign_of" 1 (sp_sign_of X.K)) (kn_thing_of : KnX X "thing_of" 3 (sp_thing_of X.K)) (a0 : (List Nat)) : BC X E ([.d (D.str a0), .un, .un, .un, .un, .un, .un] : List B) (defBody s_read_expr) (fun s : Unit => List.replicate 7 B.un) (fun s : Empty => nomatch s) (fun z : (List (Int × (List Nat) × Thing)) => Res.o (OO.lst (List.map (fun z : (Int × (List Nat) × Thing) => (D.tup [(D.int z.1), (D.str z.2.1), (encThing z.2.2)])) z))) (c_read_expr a0) := by
  unfold c_read_expr
  exact (c_ifr (et_not (et_val (ed_isi (hX.gl lk_read_expr_isinstance) m_isinstance (ed_var 0 (hX.nm rfl) (hX.vs (vis_l lk_read_expr_text)) rfl) (ed_ty (n := "str") (hX.gl lk_read_expr_str) m_str (by decide +kernel)) rfl (by decide +kernel)))) (fun h => absurd h (by decide)) (fun h1 => (c_setO 1 (fun z : (List (List Nat)) => OO.lst (List.map D.str z)) hX rfl (loc_l lk_read_expr_words) (eo_split (ed_var 0 (hX.nm rfl) (hX.vs (vis_l lk_read_expr_text)) rfl) (ed_str [32] (by decide +kernel) (by decide)) (by decide)) (fun v2 hv2 => (show BC X E ([.d (D.str a0), .own (.lst (List.map D.str v2)), .un, .un, .un, .un, .un] : List B) _ _ _ _ _ from (c_ifr (et_w (ew_or (et_cmp (od_eqI _ _) (ed_op (od_mod _ _ (by decide)) (ed_lenM (hX.gl lk_read_expr_len) m_len (el_own 1 (hX.nm rfl) (hX.vs (vis_l lk_read_expr_words)) rfl)) ed_int) ed_int) (fun h3 => (ew_or1 (et_cmp (od_gt _ _) (ed_lenM (hX.gl lk_read_expr_len) m_len (el_own 1 (hX.nm rfl) (hX.vs (vis_l lk_read_expr_words)) rfl)) (ed_op (od_sub _ _) (ed_op (od_mul _ _ (.inr (by decide))) ed_int (ed_gInt (hX.gl lk_read_expr_MOST_TERMS) c_MOST_TERMS)) ed_int)))))) (fun h4 => (b_raise hM hX x_NoExpr (hX.gl lk_read_expr_NoExpr))) (fun h4 => (c_setO 2 (fun z : (List (Int × (List Nat) × Thing)) => OO.lst (List.map (fun z : (Int × (List Nat) × Thing) => (D.tup [(D.int z.1), (D.str z.2.1), (encThing z.2.2)])) z)) hX rfl (loc_l lk_read_expr_terms) (eo_lst ea_nil (by show 0 ≤ sizeLine; decide)) (fun v5 hv5 => (show BC X E ([.d (D.str a0), .own (.lst (List.map D.str v2)), .own (.lst (List.map (fun z : (Int × (List Nat) × Thing) => (D.tup [(D.int z.1), (D.str z.2.1), (encThing z.2.2)])) v5)), .un, .un, .un, .un] : List B) _ _ _ _ _ from (c_chk (fun h22 => (have c6 := h22; (c_for (Γl := (fun s7 : (List (Int × (List Nat) × Thing)) => ([.d (D.str a0), .own (.lst (List.map D.str v2)), .own (.lst (List.map (fun z : (Int × (List Nat) × Thing) => (D.tup [(D.int z.1), (D.str z.2.1), (encThing z.2.2)])) s7)), .un, .un, .un, .un] : List B))) (g := (gName 3)) (js := [3]) D.int (fun (s7 : (List (Int × (List Nat) × Thing))) (y8 : Int) => (bnd ((1 : Int) : Int) fun v9 => Co.bind (S := Int) (if (decide ((0 : Int) < y8)) = true then chk ((-((v2).length : Int) ≤ (y8 - (1 : Int)) ∧ (y8 - (1 : Int)) < ((v2).length : Int))) (bndO ((signF (ix v2 (y8 - (1 : Int)) [])) : Out Int) fun v11 => .go v11) else .go v9) fun s14 => chk ((-((v2).length : Int) ≤ y8 ∧ y8 < ((v2).length : Int))) (bndO ((thingF (ix v2 y8 [])) : Out ((List Nat) × Thing)) fun v15 => chk ((s7.length < sizeLine)) (bnd (s7 ++ [(s14, v15.1, v15.2)] : (List (Int × (List Nat) × Thing))) fun v17 => .go v17)) : Co ((List (Int × (List Nat) × Thing))) ((List (Int × (List Nat) × Thing))) (List (Int × (List Nat) × Thing)))) v5 (rintsS (0 : Int) (2 : Int) (rngN (0 : Int) (v2.length : Int) (2 : Int))) (fun (s7 : (List (Int × (List Nat) × Thing))) (y8 : Int) => ([.d (D.str a0), .own (.lst (List.map D.str v2)), .own (.lst (List.map (fun z : (Int × (List Nat) × Thing) => (D.tup [(D.int z.1), (D.str z.2.1), (encThing z.2.2)])) s7)), .d (D.int y8), .un, .un, .un] : List B)) hM hX (.keep (.keep (.keep (.keep (.keep (.keep (.keep .nil))))))) (it_range3 (hX.gl lk_read_expr_range) m_range ed_int (ed_lenM (hX.gl lk_read_expr_len) m_len (el_own 1 (hX.nm rfl) (hX.vs (vis_l lk_read_expr_words)) rfl)) ed_int (by decide) c6) (pg_name (i := 3) hX.nd (hX.nm rfl) (hX.lc (loc_l lk_read_expr_k)) (.inl (hX.fn _))) (fun s7 y8 => (tg_name 3)) (fun s7 y8 => (c_set 4 D.int hX rfl (loc_l lk_read_expr_sign) ed_int (fun v9 hv9 => (show BC X E ([.d (D.str a0), .own (.lst (List.map D.str v2)), .own (.lst (List.map (fun z : (Int × (List Nat) × Thing) => (D.tup [(D.int z.1), (D.str z.2.1), (encThing z.2.2)])) s7)), .d (D.int y8), .d (D.int v9), .un, .un] : List B) _ _ _ _ _ from (c_ifj (Γj := (fun s14 : Int => ([.d (D.str a0), .own (.lst (List.map D.str v2)), .own (.lst (List.map (fun z : (Int × (List Nat) × Thing) => (D.tup [(D.int z.1), (D.str z.2.1), (encThing z.2.2)])) s7)), .d (D.int y8), .d (D.int s14), .un, .un] : List B))) (et_cmp (od_gt _ _) (ed_var 3 (hX.nm rfl) (hX.vs (vis_l lk_read_expr_k)) rfl) ed_int) (fun h10 => (c_chk (fun h13 => (have c12 := h13; (c_setR 4 D.int hX rfl (loc_l lk_read_expr_sign) (es_call (E := (fun _ => E)) (ix v2 (y8 - (1 : Int)) []) hM.pass kn_sign_of (hM.room hX (by decide)) (hX.gl lk_read_expr_sign_of) (ea2_d (ed_ixL (el_own 1 (hX.nm rfl) (hX.vs (vis_l lk_read_expr_words)) rfl) (ed_op (od_sub _ _) (ed_var 3 (hX.nm rfl) (hX.vs (vis_l lk_read_expr_k)) rfl) ed_int) (atI_map (f := D.str) (xs := v2) (ix_ok (d := []) c12))) ea2_nil) trivial) (fun v11 => (show BC X E ([.d (D.str a0), .own (.lst (List.map D.str v2)), .own (.lst (List.map (fun z : (Int × (List Nat) × Thing) => (D.tup [(D.int z.1), (D.str z.2.1), (encThing z.2.2)])) s7)), .d (D.int y8), .d (D.int v11), .un, .un] : List B) _ _ _ _ _ from (c_nil (.keep (.keep (.keep (.keep (.keep (.keep (.keep .nil))))))))))))))) (fun h10 => (c_nil (.keep (.keep (.keep (.keep (.keep (.keep (.keep .nil))))))))) (fun s14 => (c_chk (fun h20 => (have c16 := h20; (c_setRT (g := (gTup X.K 2 (gCons (gName 5) (gCons (gName 6) gNil)))) (js := [5, 6]) (fun z : ((List Nat) × Thing) => (D.tup [(D.str z.1), (encThing z.2)])) (fun v15 : ((List Nat) × Thing) => ([.d (D.str a0), .own (.lst (List.map D.str v2)), .own (.lst (List.map (fun z : (Int × (List Nat) × Thing) => (D.tup [(D.int z.1), (D.str z.2.1), (encThing z.2.2)])) s7)), .d (D.int y8), .d (D.int s14), .d (D.str v15.1), .d (encThing v15.2)] : List B)) (pg_tup hM.calm (pgs_cons (pg_name (i := 5) hX.nd (hX.nm rfl) (hX.lc (loc_l lk_read_expr_sort)) (.inl (hX.fn _))) (pgs_cons (pg_name (i := 6) hX.nd (hX.nm rfl) (hX.lc (loc_l lk_read_expr_thing)) (.inl (hX.fn _))) pgs_nil))) (fun v15 => (tg_tup (tgs_cons 5 (tgs_cons 6 tgs_nil)) rfl)) (es_call (E := (fun _ => E)) (ix v2 y8 []) hM.pass kn_thing_of (hM.room hX (by decide)) (hX.gl lk_read_expr_thing_of) (ea2_d (ed_ixL (el_own 1 (hX.nm rfl) (hX.vs (vis_l lk_read_expr_words)) rfl) (ed_var 3 (hX.nm rfl) (hX.vs (vis_l lk_read_expr_k)) rfl) (atI_map (f := D.str) (xs := v2) (ix_ok (d := []) c16))) ea2_nil) trivial) (fun v15 => (c_chk (fun h19 => (have c18 := h19; (c_app 2 (fun z : (Int × (List Nat) × Thing) => (D.tup [(D.int z.1), (D.str z.2.1), (encThing z.2.2)])) hX rfl (vis_l lk_read_expr_terms) rfl (ed_tup (ea_cons (ed_var 4 (hX.nm rfl) (hX.vs (vis_l lk_read_expr_sign)) rfl) (ea_cons (ed_var 5 (hX.nm rfl) (hX.vs (vis_l lk_read_expr_sort)) rfl) (ea_cons (ed_var 6 (hX.nm rfl) (hX.vs (vis_l lk_read_expr_thing)) rfl) ea_nil))) (by show 3 ≤ sizeLine; decide)) c18 (fun v17 hv17 => (show BC X E ([.d (D.str a0), .own (.lst (List.map D.str v2)), .own (.lst (List.map (fun z : (Int × (List Nat) × Thing) => (D.tup [(D.int z.1), (D.str z.2.1), (encThing z.2.2)])) v17)), .d (D.int y8), .d (D.int s14), .d (D.str v15.1), .d (encThing v15.2)] : List B) _ _ _ _ _ from (c_nil (.keep (.keep (.keep (.drop (.drop (.drop (.drop .nil))))))))))))))))))))))))) (fun s21 => (show BC X E ([.d (D.str a0), .own (.lst (List.map D.str v2)), .own (.lst (List.map (fun z : (Int × (List Nat) × Thing) => (D.tup [(D.int z.1), (D.str z.2.1), (encThing z.2.2)])) s21)), .un, .un, .un, .un] : List B) _ _ _ _ _ from (c_retV 2 hX rfl (vis_l lk_read_expr_terms) rfl rfl)))))))))))))))))
abbrev sp_read_expr (K : PySem.W.Frag) : Sp := spG K (A := (List Nat)) (fun a => [.d (D.str a)]) (fun _ => True) (fun a => rsOf (fun z : (List (Int × (List Nat) × Thing)) => Res.o (OO.lst (List.map (fun z : (Int × (List Nat) × Thing) => (D.tup [(D.int z.1), (D.str z.2.1), (encThing z.2.2)])) z))) (readF a))
theorem ok_read_expr {P : Program} {w : World} {K : PySem.W.Frag} {mg : Str → Option Value} {base : Heap} {f : Addr} {fd : FuncData} (F : Fun K "read_expr" "read_expr" s_read_expr f fd) (c_MOST_TERMS : ∃ t, mg "MOST_TERMS" = some (.int (6 : Int) t)) (x_NoExpr : ExC K mg "NoExpr") (m_isinstance : mg "isinstance" = none) (m_len : mg "len" = none) (m_range : mg "range" = none) (m_str : mg "str" = none) (kn_sign_of : Kn P w K mg base "sign_of" 1 (sp_sign_of K)) (kn_thing_of : Kn P w K mg base "thing_of" 3 (sp_thing_of K)) : FnOk P w K mg base (L2.CX P w) 4 f fd ["text"] (sp_read_expr K) :=
  def_okC (A := (List Nat)) F sc_read_expr .stk (.inl rfl) (fun _ => rfl) (fun a => c_read_expr a) (fun a X E e1 e2 e3 e4 e5 hX hM => by
    subst e1 e2 e3 e4 e5
    exact bd_read_expr X E hX hM c_MOST_TERMS x_NoExpr m_isinstance m_len m_range m_str kn_sign_of kn_thing_of a)
abbrev s_has_call : Stmt := top 22
abbrev nm_has_call : List Str := ["terms", "sign", "sort", "thing"]
theorem sc_has_call : FnScope nm_has_call ["terms"] (defScope s_has_call) := ⟨rfl, rfl, rfl, by decide +kernel, rfl, by decide +kernel, by decide +kernel⟩
theorem lk_has_call_sign : (defScope s_has_call).names.lookup ("sign" : Str) = some .local := by decide +kernel
theorem lk_has_call_sort : (defScope s_has_call).names.lookup ("sort" : Str) = some .local := by decide +kernel
theorem lk_has_call_terms : (defScope s_has_call).names.lookup ("terms" : Str) = some .local := by decide +kernel
theorem lk_has_call_thing : (defScope s_has_call).names.lookup ("thing" : Str) = some .local := by decide +kernel
noncomputable def c_has_call (a0 : (List (Int × (List Nat) × Thing))) : Co Unit Empty Bool := Co.bind (S := Unit) (coLoop (Y := (Int × (List Nat) × Thing)) (fun (s1 : Unit) (y2 : (Int × (List Nat) × Thing)) => (if (decide (y2.2.1 = ([99, 97, 108, 108] : List Nat))) = true then Co.up (.ret (.ok true)) else .go () : Co (Unit) (Unit) Bool)) () a0) fun s4 => .ret (.ok false)
noncomputable def hasCallF (a0 : (List (Int × (List Nat) × Thing))) : Out Bool := (c_has_call a0).out .stk
theorem bd_has_call (X : Cx) (E : XK) (hX : XOk 0 nm_has_call (defScope s_has_call) X) (hM : XCm X E) (a0 : (List (Int × (List Nat) × Thing))) : BC X E ([.d (D.lst (List.map (fun z : (Int × (List Nat) × Thing) => (D.tup [(D.int z.1), (D.str z.2.1), (encThing z.2.2)])) a0)), .un, .un, .un] : List B) (defBody s_has_call) (fun s : Unit => List.replicate 4 B.un) (fun s : Empty => nomatch s) (fun z : Bool => Res.v (D.bl z)) (c_has_call a0) := by
  unfold c_has_call
  exact (c_for (Γl := (fun s1 : Unit => ([.d (D.lst (List.map (fun z : (Int × (List Nat) × Thing) => (D.tup [(D.int z.1), (D.str z.2.1), (encThing z.2.2)])) a0)), .un, .un, .un] : List B))) (g := (gTup X.K 3 (gCons (gName 1) (gCons (gName 2) (gCons (gName 3) gNil))))) (js := [1, 2, 3]) (fun z : (Int × (List Nat) × Thing) => (D.tup [(D.int z.1), (D.str z.2.1), (encThing z.2.2)])) (fun (s1 : Unit) (y2 : (Int × (List Nat) × Thing)) => (if (decide (y2.2.1 = ([99, 97, 108, 108] : List Nat))) = true then Co.up (.ret (.ok true)) else .go () : Co (Unit) (Unit) Bool)) () a0 (fun (s1 : Unit) (y2 : (Int × (List Nat) × Thing)) => ([.d (D.lst (List.map (fun z : (Int × (List Nat) × Thing) => (D.tup [(D.int z.1), (D.str z.2.1), (encThing z.2.2)])) a0)), .d (D.int y2.1), .d (D.str y2.2.1), .d (encThing y2.2.2)] : List B)) hM hX (.keep (.keep (.keep (.keep .nil)))) (it_lst (ed_var 0 (hX.nm rfl) (hX.vs (vis_l lk_has_call_terms)) rfl)) (pg_tup hM.calm (pgs_cons (pg_name (i := 1) hX.nd (hX.nm rfl) (hX.lc (loc_l lk_has_call_sign)) (.inl (hX.fn _))) (pgs_cons (pg_name (i := 2) hX.nd (hX.nm rfl) (hX.lc (loc_l lk_has_call_sort)) (.inl (hX.fn _))) (pgs_cons (pg_name (i := 3) hX.nd (hX.nm rfl) (hX.lc (loc_l lk_has_call_thing)) (.inl (hX.fn _))) pgs_nil)))) (fun s1 y2 => (tg_tup (tgs_cons 1 (tgs_cons 2 (tgs_cons 3 tgs_nil))) rfl)) (fun s1 y2 => (c_ifr (et_cmp (od_eqS _ _) (ed_var 2 (hX.nm rfl) (hX.vs (vis_l lk_has_call_sort)) rfl) (ed_str ([99, 97, 108, 108] : List Nat) (by decide +kernel) (by decide))) (fun h3 => (c_ret ed_bl rfl)) (fun h3 => (c_nil (.keep (.drop (.drop (.drop .nil)))))))) (fun s4 => (show BC X E ([.d (D.lst (List.map (fun z : (Int × (List Nat) × Thing) => (D.tup [(D.int z.1), (D.str z.2.1), (encThing z.2.2)])) a0)), .un, .un, .un] : List B) _ _ _ _ _ from (c_ret ed_bl rfl))))
abbrev sp_has_call (K : PySem.W.Frag) : Sp := spG K (A := (List (Int × (List Nat) × Thing))) (fun a => [.d (D.lst (List.map (fun z : (Int × (List Nat) × Thing) => (D.tup [(D.int z.1), (D.str z.2.1), (encThing z.2.2)])) a))]) (fun _ => True) (fun a => rsOf (fun z : Bool => Res.v (D.bl z)) (hasCallF a))
theorem ok_has_call {P : Program} {w : World} {K : PySem.W.Frag} {mg : Str → Option Value} {base : Heap} {f : Addr} {fd : FuncData} (F : Fun K "has_call" "has_call" s_has_call f fd) : FnOk P w K mg base (L2.CX P w) 1 f fd ["terms"] (sp_has_call K) :=
  def_okC (A := (List (Int × (List Nat) × Thing))) F sc_has_call .stk (.inl rfl) (fun _ => rfl) (fun a => c_has_call a) (fun a X E e1 e2 e3 e4 e5 hX hM => by
    subst e1 e2 e3 e4 e5
    exact bd_has_call X E hX hM a)
abbrev s_show_term : Stmt := top 20
abbrev nm_show_term : List Str := ["sort", "thing", "path"]
theorem sc_show_term : FnScope nm_show_term ["sort", "thing"] (defScope s_show_term) := ⟨rfl, rfl, rfl, by decide +kernel, rfl, by decide +kernel, by decide +kernel⟩
theorem lk_show_term_path : (defScope s_show_term).names.lookup ("path" : Str) = some .local := by decide +kernel
theorem lk_show_term_sort : (defScope s_show_term).names.lookup ("sort" : Str) = some .local := by decide +kernel
theorem lk_show_term_str : (defScope s_show_term).names.lookup ("str" : Str) = some .globalImplicit := by decide +kernel
theorem lk_show_term_thing : (defScope s_show_term).names.lookup ("thing" : Str) = some .local := by decide +kernel
noncomputable def c_show_term (a0 : (List Nat)) (a1 : Thing) : Co Unit Empty (List Nat) := if (decide (a0 = ([110, 117, 109, 98, 101, 114] : List Nat))) = true then Co.up (chk (((Thing.is_num a1) = true) ∧ (((Thing.as_num a1)).natAbs.log2 < 1920)) (.ret (.ok (strI (Thing.as_num a1))))) else chk (((Thing.is_path a1) = true) ∧ ((List.map (·.length) (Thing.as_path a1)).sum + (Thing.as_path a1).length * ([46] : List Nat).length ≤ LMax)) (bnd ((joinS ([46] : List Nat) (Thing.as_path a1)) : (List Nat)) fun v5 => if (decide (a0 = ([99, 97, 108, 108] : List Nat))) = true then Co.up (chk ((v5.length + ([40, 41] : List Nat).length ≤ LMax)) (.ret (.ok (v5 ++ ([40, 41] : List Nat))))) else .ret (.ok v5))
noncomputable def showTermF (a0 : (List Nat)) (a1 : Thing) : Out (List Nat) := (c_show_term a0 a1).out .stk
theorem bd_show_term (X : Cx) (E : XK) (hX : XOk 0 nm_show_term (defScope s_show_term) X) (hM : XCm X E) (m_str : X.mg "str" = none) (a0 : (List Nat)) (a1 : Thing) : BC X E ([.d (D.str a0), .d (encThing a1), .un] : List B) (defBody s_show_term) (fun s : Unit => List.replicate 3 B.un) (fun s : Empty => nomatch s) (fun z : (List Nat) => Res.v (D.str z)) (c_show_term a0 a1) := by
  unfold c_show_term
  exact (c_ifr (et_cmp (od_eqS _ _) (ed_var 0 (hX.nm rfl) (hX.vs (vis_l lk_show_term_sort)) rfl) (ed_str ([110, 117, 109, 98, 101, 114] : List Nat) (by decide +kernel) (by decide))) (fun h1 => (c_chk (fun h4 => (have ⟨c2, c3⟩ := h4; (c_ret (ed_strI (hX.gl lk_show_term_str) m_str (ed_cast (Thing.num_ok c2) (ed_var 1 (hX.nm rfl) (hX.vs (vis_l lk_show_term_thing)) rfl)) c3) rfl))))) (fun h1 => (c_chk (fun h11 => (have ⟨c6, c7⟩ := h11; (c_set 2 D.str hX rfl (loc_l lk_show_term_path) (ed_joinT (ed_str ([46] : List Nat) (by decide +kernel) (by decide)) (ed_cast (Thing.path_ok c6) (ed_var 1 (hX.nm rfl) (hX.vs (vis_l lk_show_term_thing)) rfl)) c7) (fun v5 hv5 => (show BC X E ([.d (D.str a0), .d (encThing a1), .d (D.str v5)] : List B) _ _ _ _ _ from (c_ifr (et_cmp (od_eqS _ _) (ed_var 0 (hX.nm rfl) (hX.vs (vis_l lk_show_term_sort)) rfl) (ed_str ([99, 97, 108, 108] : List Nat) (by decide +kernel) (by decide))) (fun h8 => (c_chk (fun h10 => (have c9 := h10; (c_ret (ed_op (od_addS _ _ c9) (ed_var 2 (hX.nm rfl) (hX.vs (vis_l lk_show_term_path)) rfl) (ed_str ([40, 41] : List Nat) (by decide +kernel) (by decide))) rfl))))) (fun h8 => (c_ret (ed_var 2 (hX.nm rfl) (hX.vs (vis_l lk_show_term_path)) rfl) rfl)))))))))))
abbrev sp_show_term (K : PySem.W.Frag) : Sp := spG K (A := (List Nat) × Thing) (fun a => [.d (D.str a.1), .d (encThing a.2)]) (fun _ => True) (fun a => rsOf (fun z : (List Nat) => Res.v (D.str z)) (showTermF a.1 a.2))
theorem ok_show_term {P : Program} {w : World} {K : PySem.W.Frag} {mg : Str → Option Value} {base : Heap} {f : Addr} {fd : FuncData} (F : Fun K "show_term" "show_term" s_show_term f fd) (m_str : mg "str" = none) : FnOk P w K mg base (L2.CX P w) 1 f fd ["sort", "thing"] (sp_show_term K) :=
  def_okC (A := (List Nat) × Thing) F sc_show_term .stk (.inl rfl) (fun _ => rfl) (fun a => c_show_term a.1 a.2) (fun a X E e1 e2 e3 e4 e5 hX hM => by
    subst e1 e2 e3 e4 e5
    exact bd_show_term X E hX hM m_str a.1 a.2)
abbrev s_show_expr : Stmt := top 21
abbrev nm_show_expr : List Str := ["terms", "text", "sign", "sort", "thing"]
theorem sc_show_expr : FnScope nm_show_expr ["terms"] (defScope s_show_expr) := ⟨rfl, rfl, rfl, by decide +kernel, rfl, by decide +kernel, by decide +kernel⟩
theorem lk_show_expr_show_term : (defScope s_show_expr).names.lookup ("show_term" : Str) = some .globalImplicit := by decide +kernel
theorem lk_show_expr_sign : (defScope s_show_expr).names.lookup ("sign" : Str) = some .local := by decide +kernel
theorem lk_show_expr_sort : (defScope s_show_expr).names.lookup ("sort" : Str) = some .local := by decide +kernel
theorem lk_show_expr_terms : (defScope s_show_expr).names.lookup ("terms" : Str) = some .local := by decide +kernel
theorem lk_show_expr_text : (defScope s_show_expr).names.lookup ("text" : Str) = some .local := by decide +kernel
theorem lk_show_expr_thing : (defScope s_show_expr).names.lookup ("thing" : Str) = some .local := by decide +kernel
noncomputable def c_show_expr (a0 : (List (Int × (List Nat) × Thing))) : Co Unit Empty (List Nat) := bnd (([] : List Nat) : (List Nat)) fun v1 => Co.bind (S := (List Nat)) (coLoop (Y := (Int × (List Nat) × Thing)) (fun (s2 : (List Nat)) (y3 : (Int × (List Nat) × Thing)) => (Co.bind (S := (List Nat)) (if ((!(decide (s2 = ([] : List Nat)))) && (decide (y3.1 = (1 : Int)))) = true then chk ((s2.length + ([32, 43, 32] : List Nat).length ≤ LMax)) (bnd ((s2 ++ ([32, 43, 32] : List Nat)) : (List Nat)) fun v6 => .go v6) else Co.bind (S := (List Nat)) (if (!(decide (s2 = ([] : List Nat)))) = true then chk ((s2.length + ([32, 45, 32] : List Nat).length ≤ LMax)) (bnd ((s2 ++ ([32, 45, 32] : List Nat)) : (List Nat)) fun v10 => .go v10) else .go s2) fun s13 => .go s13) fun s14 => chk ((((showTermF y3.2.1 y3.2.2)).IsOk) ∧ (s14.length + ((showTermF y3.2.1 y3.2.2).get []).length ≤ LMax)) (bnd ((s14 ++ ((showTermF y3.2.1 y3.2.2).get [])) : (List Nat)) fun v15 => .go v15) : Co ((List Nat)) ((List Nat)) (List Nat))) v1 a0) fun s19 => .ret (.ok s19)
noncomputable def showF (a0 : (List (Int × (List Nat) × Thing))) : Out (List Nat) := (c_show_expr a0).out .stk
theorem bd_show_expr (X : Cx) (E : XK) (hX : XOk 1 nm_show_expr (defScope s_show_expr) X) (hM : XCm X E) (kn_show_term : KnX X "show_term" 1 (sp_show_term X.K)) (a0 : (List (Int × (List Nat) × Thing))) : BC X E ([.d (D.lst (List.map (fun z : (Int × (List Nat) × Thing) => (D.tup [(D.int z.1), (D.str z.2.1), (encThing z.2.2)])) a0)), .un, .un, .un, .un] : List B) (defBody s_show_expr) (fun s : Unit => List.replicate 5 B.un) (fun s : Empty => nomatch s) (fun z : (List Nat) => Res.v (D.str z)) (c_show_expr a0) := by
  unfold c_show_expr
  exact (c_set 1 D.str hX rfl (loc_l lk_show_expr_text) (ed_str ([] : List Nat) (by decide +kernel) (by decide)) (fun v1 hv1 => (show BC X E ([.d (D.lst (List.map (fun z : (Int × (List Nat) × Thing) => (D.tup [(D.int z.1), (D.str z.2.1), (encThing z.2.2)])) a0)), .d (D.str v1), .un, .un, .un] : List B) _ _ _ _ _ from (c_for (Γl := (fun s2 : (List Nat) => ([.d (D.lst (List.map (fun z : (Int × (List Nat) × Thing) => (D.tup [(D.int z.1), (D.str z.2.1), (encThing z.2.2)])) a0)), .d (D.str s2), .un, .un, .un] : List B))) (g := (gTup X.K 3 (gCons (gName 2) (gCons (gName 3) (gCons (gName 4) gNil))))) (js := [2, 3, 4]) (fun z : (Int × (List Nat) × Thing) => (D.tup [(D.int z.1), (D.str z.2.1), (encThing z.2.2)])) (fun (s2 : (List Nat)) (y3 : (Int × (List Nat) × Thing)) => (Co.bind (S := (List Nat)) (if ((!(decide (s2 = ([] : List Nat)))) && (decide (y3.1 = (1 : Int)))) = true then chk ((s2.length + ([32, 43, 32] : List Nat).length ≤ LMax)) (bnd ((s2 ++ ([32, 43, 32] : List Nat)) : (List Nat)) fun v6 => .go v6) else Co.bind (S := (List Nat)) (if (!(decide (s2 = ([] : List Nat)))) = true then chk ((s2.length + ([32, 45, 32] : List Nat).length ≤ LMax)) (bnd ((s2 ++ ([32, 45, 32] : List Nat)) : (List Nat)) fun v10 => .go v10) else .go s2) fun s13 => .go s13) fun s14 => chk ((((showTermF y3.2.1 y3.2.2)).IsOk) ∧ (s14.length + ((showTermF y3.2.1 y3.2.2).get []).length ≤ LMax)) (bnd ((s14 ++ ((showTermF y3.2.1 y3.2.2).get [])) : (List Nat)) fun v15 => .go v15) : Co ((List Nat)) ((List Nat)) (List Nat))) v1 a0 (fun (s2 : (List Nat)) (y3 : (Int × (List Nat) × Thing)) => ([.d (D.lst (List.map (fun z : (Int × (List Nat) × Thing) => (D.tup [(D.int z.1), (D.str z.2.1), (encThing z.2.2)])) a0)), .d (D.str s2), .d (D.int y3.1), .d (D.str y3.2.1), .d (encThing y3.2.2)] : List B)) hM hX (.keep (.keep (.keep (.keep (.keep .nil))))) (it_lst (ed_var 0 (hX.nm rfl) (hX.vs (vis_l lk_show_expr_terms)) rfl)) (pg_tup hM.calm (pgs_cons (pg_name (i := 2) hX.nd (hX.nm rfl) (hX.lc (loc_l lk_show_expr_sign)) (.inl (hX.fn _))) (pgs_cons (pg_name (i := 3) hX.nd (hX.nm rfl) (hX.lc (loc_l lk_show_expr_sort)) (.inl (hX.fn _))) (pgs_cons (pg_name (i := 4) hX.nd (hX.nm rfl) (hX.lc (loc_l lk_show_expr_thing)) (.inl (hX.fn _))) pgs_nil)))) (fun s2 y3 => (tg_tup (tgs_cons 2 (tgs_cons 3 (tgs_cons 4 tgs_nil))) rfl)) (fun s2 y3 => (c_ifj (Γj := (fun s14 : (List Nat) => ([.d (D.lst (List.map (fun z : (Int × (List Nat) × Thing) => (D.tup [(D.int z.1), (D.str z.2.1), (encThing z.2.2)])) a0)), .d (D.str s14), .d (D.int y3.1), .d (D.str y3.2.1), .d (encThing y3.2.2)] : List B))) (et_w (ew_and (et_cmp (od_neS _ _) (ed_var 1 (hX.nm rfl) (hX.vs (vis_l lk_show_expr_text)) rfl) (ed_str ([] : List Nat) (by decide +kernel) (by decide))) (fun h4 => (ew_and1 (et_cmp (od_eqI _ _) (ed_var 2 (hX.nm rfl) (hX.vs (vis_l lk_show_expr_sign)) rfl) ed_int))))) (fun h5 => (c_chk (fun h8 => (have c7 := h8; (c_set 1 D.str hX rfl (loc_l lk_show_expr_text) (ed_op (od_addS _ _ c7) (ed_var 1 (hX.nm rfl) (hX.vs (vis_l lk_show_expr_text)) rfl) (ed_str ([32, 43, 32] : List Nat) (by decide +kernel) (by decide))) (fun v6 hv6 => (show BC X E ([.d (D.lst (List.map (fun z : (Int × (List Nat) × Thing) => (D.tup [(D.int z.1), (D.str z.2.1), (encThing z.2.2)])) a0)), .d (D.str v6), .d (D.int y3.1), .d (D.str y3.2.1), .d (encThing y3.2.2)] : List B) _ _ _ _ _ from (c_nil (.keep (.keep (.keep (.keep (.keep .nil))))))))))))) (fun h5 => (c_ifj (Γj := (fun s13 : (List Nat) => ([.d (D.lst (List.map (fun z : (Int × (List Nat) × Thing) => (D.tup [(D.int z.1), (D.str z.2.1), (encThing z.2.2)])) a0)), .d (D.str s13), .d (D.int y3.1), .d (D.str y3.2.1), .d (encThing y3.2.2)] : List B))) (et_cmp (od_neS _ _) (ed_var 1 (hX.nm rfl) (hX.vs (vis_l lk_show_expr_text)) rfl) (ed_str ([] : List Nat) (by decide +kernel) (by decide))) (fun h9 => (c_chk (fun h12 => (have c11 := h12; (c_set 1 D.str hX rfl (loc_l lk_show_expr_text) (ed_op (od_addS _ _ c11) (ed_var 1 (hX.nm rfl) (hX.vs (vis_l lk_show_expr_text)) rfl) (ed_str ([32, 45, 32] : List Nat) (by decide +kernel) (by decide))) (fun v10 hv10 => (show BC X E ([.d (D.lst (List.map (fun z : (Int × (List Nat) × Thing) => (D.tup [(D.int z.1), (D.str z.2.1), (encThing z.2.2)])) a0)), .d (D.str v10), .d (D.int y3.1), .d (D.str y3.2.1), .d (encThing y3.2.2)] : List B) _ _ _ _ _ from (c_nil (.keep (.keep (.keep (.keep (.keep .nil))))))))))))) (fun h9 => (c_nil (.keep (.keep (.keep (.keep (.keep .nil))))))) (fun s13 => (c_nil (.keep (.keep (.keep (.keep (.keep .nil))))))))) (fun s14 => (c_chk (fun h18 => (have ⟨c16, c17⟩ := h18; (c_set 1 D.str hX rfl (loc_l lk_show_expr_text) (ed_op (od_addS _ _ c17) (ed_var 1 (hX.nm rfl) (hX.vs (vis_l lk_show_expr_text)) rfl) (ed_okS (z := D.str) [] (fun E tk => (es_call (E := E) ((y3.2.1, y3.2.2) : (List Nat) × Thing) tk kn_show_term (hM.room hX (by decide)) (hX.gl lk_show_expr_show_term) (ea2_d (ed_var 3 (hX.nm rfl) (hX.vs (vis_l lk_show_expr_sort)) rfl) (ea2_d (ed_var 4 (hX.nm rfl) (hX.vs (vis_l lk_show_expr_thing)) rfl) ea2_nil)) trivial)) (fun _ => rfl) c16)) (fun v15 hv15 => (show BC X E ([.d (D.lst (List.map (fun z : (Int × (List Nat) × Thing) => (D.tup [(D.int z.1), (D.str z.2.1), (encThing z.2.2)])) a0)), .d (D.str v15), .d (D.int y3.1), .d (D.str y3.2.1), .d (encThing y3.2.2)] : List B) _ _ _ _ _ from (c_nil (.keep (.keep (.drop (.drop (.drop .nil))))))))))))))) (fun s19 => (show BC X E ([.d (D.lst (List.map (fun z : (Int × (List Nat) × Thing) => (D.tup [(D.int z.1), (D.str z.2.1), (encThing z.2.2)])) a0)), .d (D.str s19), .un, .un, .un] : List B) _ _ _ _ _ from (c_ret (ed_var 1 (hX.nm rfl) (hX.vs (vis_l lk_show_expr_text)) rfl) rfl)))))))
abbrev sp_show_expr (K : PySem.W.Frag) : Sp := spG K (A := (List (Int × (List Nat) × Thing))) (fun a => [.d (D.lst (List.map (fun z : (Int × (List Nat) × Thing) => (D.tup [(D.int z.1), (D.str z.2.1), (encThing z.2.2)])) a))]) (fun _ => True) (fun a => rsOf (fun z : (List Nat) => Res.v (D.str z)) (showF a))
theorem ok_show_expr {P : Program} {w : World} {K : PySem.W.Frag} {mg : Str → Option Value} {base : Heap} {f : Addr} {fd : FuncData} (F : Fun K "show_expr" "show_expr" s_show_expr f fd) (kn_show_term : Kn P w K mg base "show_term" 1 (sp_show_term K)) : FnOk P w K mg base (L2.CX P w) 2 f fd ["terms"] (sp_show_expr K) :=
  def_okC (A := (List (Int × (List Nat) × Thing))) F sc_show_expr .stk (.inl rfl) (fun _ => rfl) (fun a => c_show_expr a) (fun a X E e1 e2 e3 e4 e5 hX hM => by
    subst e1 e2 e3 e4 e5
    exact bd_show_expr X E hX hM kn_show_term a)
abbrev s_Let___init : Stmt := clsAt (top 25) 0
abbrev nm_Let___init : List Str := ["self", "name", "terms"]
theorem sc_Let___init : FnScope nm_Let___init ["self", "name", "terms"] (defScope s_Let___init) := ⟨rfl, rfl, rfl, by decide +kernel, rfl, by decide +kernel, by decide +kernel⟩
theorem lk_Let___init_list : (defScope s_Let___init).names.lookup ("list" : Str) = some .globalImplicit := by decide +kernel
theorem lk_Let___init_name : (defScope s_Let___init).names.lookup ("name" : Str) = some .local := by decide +kernel
theorem lk_Let___init_self : (defScope s_Let___init).names.lookup ("self" : Str) = some .local := by decide +kernel
theorem lk_Let___init_terms : (defScope s_Let___init).names.lookup ("terms" : Str) = some .local := by decide +kernel
def mkLet (a0 : (List Nat)) (a1 : (List (Int × (List Nat) × Thing))) : ((List Nat) × (List (Int × (List Nat) × Thing))) := (a0, a1)
theorem bd_Let_init (X : Cx) (E : XK) (hX : XOk 0 nm_Let___init (defScope s_Let___init) X) (hM : XCm X E) (m_list : X.mg "list" = none) (fa_Let_name : FldA X.K "Let" "name") (fa_Let_terms : FldA X.K "Let" "terms") (a0 : (List Nat)) (a1 : (List (Int × (List Nat) × Thing))) {x dx C : Addr} (hC : ClsA X.K "Let" C) : BI X x dx C ([.un, .d (D.str a0), .bor (List.map (fun z : (Int × (List Nat) × Thing) => (D.tup [(D.int z.1), (D.str z.2.1), (encThing z.2.2)])) a1)] : List B) (defBody s_Let___init) [] [("name", (D.str a0)), ("terms", (D.lst (List.map (fun z : (Int × (List Nat) × Thing) => (D.tup [(D.int z.1), (D.str z.2.1), (encThing z.2.2)])) a1)))] := (bi_fld hX rfl (vis_l lk_Let___init_self) hC.cl (fa_Let_name.no hC) (ed_var 1 (hX.nm rfl) (hX.vs (vis_l lk_Let___init_name)) rfl) (by first | decide | (simp only [putD]; (repeat' split) <;> simp)) (bi_fld hX rfl (vis_l lk_Let___init_self) hC.cl (fa_Let_terms.no hC) (EvO.frz (eo_listL (hX.gl lk_Let___init_list) m_list (el_bor 2 (hX.nm rfl) (hX.vs (vis_l lk_Let___init_terms)) rfl))) (by first | decide | (simp only [putD]; (repeat' split) <;> simp)) bi_nil))
abbrev sp_Let_init (K : PySem.W.Frag) : Sp := spJ K "Let" (A := (List Nat) × (List (Int × (List Nat) × Thing))) (fun a => [.d (D.str a.1), .l (List.map (fun z : (Int × (List Nat) × Thing) => (D.tup [(D.int z.1), (D.str z.2.1), (encThing z.2.2)])) a.2)]) (fun _ => True) (fun a => [("name", (D.str (mkLet a.1 a.2).1)), ("terms", (D.lst (List.map (fun z : (Int × (List Nat) × Thing) => (D.tup [(D.int z.1), (D.str z.2.1), (encThing z.2.2)])) (mkLet a.1 a.2).2)))])
theorem ok_Let_init {P : Program} {w : World} {K : PySem.W.Frag} {mg : Str → Option Value} {base : Heap} {f : Addr} {fd : FuncData} (F : Fun K "__init__" "Let.__init__" s_Let___init f fd) (m_list : mg "list" = none) (fa_Let_name : FldA K "Let" "name") (fa_Let_terms : FldA K "Let" "terms") : FnOk P w K mg base (L2.CX P w) 1 f fd ["self", "name", "terms"] (sp_Let_init K) := by
  refine init_okJ F sc_Let___init (fun _ => rfl) (fun a hp X E e1 e2 e3 e4 e5 hX hM x dx C hC => ?_)
  subst e1 e2 e3 e4 e5
  exact bd_Let_init X E hX hM m_list fa_Let_name fa_Let_terms a.1 a.2 hC
abbrev s_Deed___init : Stmt := clsAt (top 26) 0
abbrev nm_Deed___init : List Str := ["self", "name", "terms"]
theorem sc_Deed___init : FnScope nm_Deed___init ["self", "name", "terms"] (defScope s_Deed___init) := ⟨rfl, rfl, rfl, by decide +kernel, rfl, by decide +kernel, by decide +kernel⟩
theorem lk_Deed___init_list : (defScope s_Deed___init).names.lookup ("list" : Str) = some .globalImplicit := by decide +kernel
theorem lk_Deed___init_name : (defScope s_Deed___init).names.lookup ("name" : Str) = some .local := by decide +kernel
theorem lk_Deed___init_self : (defScope s_Deed___init).names.lookup ("self" : Str) = some .local := by decide +kernel
theorem lk_Deed___init_terms : (defScope s_Deed___init).names.lookup ("terms" : Str) = some .local := by decide +kernel
def mkDeed (a0 : (List Nat)) (a1 : (List (Int × (List Nat) × Thing))) : ((List Nat) × (List (Int × (List Nat) × Thing))) := (a0, a1)
theorem bd_Deed_init (X : Cx) (E : XK) (hX : XOk 0 nm_Deed___init (defScope s_Deed___init) X) (hM : XCm X E) (m_list : X.mg "list" = none) (fa_Deed_name : FldA X.K "Deed" "name") (fa_Deed_terms : FldA X.K "Deed" "terms") (a0 : (List Nat)) (a1 : (List (Int × (List Nat) × Thing))) {x dx C : Addr} (hC : ClsA X.K "Deed" C) : BI X x dx C ([.un, .d (D.str a0), .bor (List.map (fun z : (Int × (List Nat) × Thing) => (D.tup [(D.int z.1), (D.str z.2.1), (encThing z.2.2)])) a1)] : List B) (defBody s_Deed___init) [] [("name", (D.str a0)), ("terms", (D.lst (List.map (fun z : (Int × (List Nat) × Thing) => (D.tup [(D.int z.1), (D.str z.2.1), (encThing z.2.2)])) a1)))] := (bi_fld hX rfl (vis_l lk_Deed___init_self) hC.cl (fa_Deed_name.no hC) (ed_var 1 (hX.nm rfl) (hX.vs (vis_l lk_Deed___init_name)) rfl) (by first | decide | (simp only [putD]; (repeat' split) <;> simp)) (bi_fld hX rfl (vis_l lk_Deed___init_self) hC.cl (fa_Deed_terms.no hC) (EvO.frz (eo_listL (hX.gl lk_Deed___init_list) m_list (el_bor 2 (hX.nm rfl) (hX.vs (vis_l lk_Deed___init_terms)) rfl))) (by first | decide | (simp only [putD]; (repeat' split) <;> simp)) bi_nil))
abbrev sp_Deed_init (K : PySem.W.Frag) : Sp := spJ K "Deed" (A := (List Nat) × (List (Int × (List Nat) × Thing))) (fun a => [.d (D.str a.1), .l (List.map (fun z : (Int × (List Nat) × Thing) => (D.tup [(D.int z.1), (D.str z.2.1), (encThing z.2.2)])) a.2)]) (fun _ => True) (fun a => [("name", (D.str (mkDeed a.1 a.2).1)), ("terms", (D.lst (List.map (fun z : (Int × (List Nat) × Thing) => (D.tup [(D.int z.1), (D.str z.2.1), (encThing z.2.2)])) (mkDeed a.1 a.2).2)))])
theorem ok_Deed_init {P : Program} {w : World} {K : PySem.W.Frag} {mg : Str → Option Value} {base : Heap} {f : Addr} {fd : FuncData} (F : Fun K "__init__" "Deed.__init__" s_Deed___init f fd) (m_list : mg "list" = none) (fa_Deed_name : FldA K "Deed" "name") (fa_Deed_terms : FldA K "Deed" "terms") : FnOk P w K mg base (L2.CX P w) 1 f fd ["self", "name", "terms"] (sp_Deed_init K) := by
  refine init_okJ F sc_Deed___init (fun _ => rfl) (fun a hp X E e1 e2 e3 e4 e5 hX hM x dx C hC => ?_)
  subst e1 e2 e3 e4 e5
  exact bd_Deed_init X E hX hM m_list fa_Deed_name fa_Deed_terms a.1 a.2 hC
abbrev s_Draw___init : Stmt := clsAt (top 27) 0
abbrev nm_Draw___init : List Str := ["self", "address", "name"]
theorem sc_Draw___init : FnScope nm_Draw___init ["self", "address", "name"] (defScope s_Draw___init) := ⟨rfl, rfl, rfl, by decide +kernel, rfl, by decide +kernel, by decide +kernel⟩
theorem lk_Draw___init_address : (defScope s_Draw___init).names.lookup ("address" : Str) = some .local := by decide +kernel
theorem lk_Draw___init_name : (defScope s_Draw___init).names.lookup ("name" : Str) = some .local := by decide +kernel
theorem lk_Draw___init_self : (defScope s_Draw___init).names.lookup ("self" : Str) = some .local := by decide +kernel
def mkDraw (a0 : (List Nat)) (a1 : (List Nat)) : ((List Nat) × (List Nat)) := (a0, a1)
theorem bd_Draw_init (X : Cx) (E : XK) (hX : XOk 0 nm_Draw___init (defScope s_Draw___init) X) (hM : XCm X E) (fa_Draw_address : FldA X.K "Draw" "address") (fa_Draw_name : FldA X.K "Draw" "name") (a0 : (List Nat)) (a1 : (List Nat)) {x dx C : Addr} (hC : ClsA X.K "Draw" C) : BI X x dx C ([.un, .d (D.str a0), .d (D.str a1)] : List B) (defBody s_Draw___init) [] [("address", (D.str a0)), ("name", (D.str a1))] := (bi_fld hX rfl (vis_l lk_Draw___init_self) hC.cl (fa_Draw_address.no hC) (ed_var 1 (hX.nm rfl) (hX.vs (vis_l lk_Draw___init_address)) rfl) (by first | decide | (simp only [putD]; (repeat' split) <;> simp)) (bi_fld hX rfl (vis_l lk_Draw___init_self) hC.cl (fa_Draw_name.no hC) (ed_var 2 (hX.nm rfl) (hX.vs (vis_l lk_Draw___init_name)) rfl) (by first | decide | (simp only [putD]; (repeat' split) <;> simp)) bi_nil))
abbrev sp_Draw_init (K : PySem.W.Frag) : Sp := spJ K "Draw" (A := (List Nat) × (List Nat)) (fun a => [.d (D.str a.1), .d (D.str a.2)]) (fun _ => True) (fun a => [("address", (D.str (mkDraw a.1 a.2).1)), ("name", (D.str (mkDraw a.1 a.2).2))])
theorem ok_Draw_init {P : Program} {w : World} {K : PySem.W.Frag} {mg : Str → Option Value} {base : Heap} {f : Addr} {fd : FuncData} (F : Fun K "__init__" "Draw.__init__" s_Draw___init f fd) (fa_Draw_address : FldA K "Draw" "address") (fa_Draw_name : FldA K "Draw" "name") : FnOk P w K mg base (L2.CX P w) 1 f fd ["self", "address", "name"] (sp_Draw_init K) := by
  refine init_okJ F sc_Draw___init (fun _ => rfl) (fun a hp X E e1 e2 e3 e4 e5 hX hM x dx C hC => ?_)
  subst e1 e2 e3 e4 e5
  exact bd_Draw_init X E hX hM fa_Draw_address fa_Draw_name a.1 a.2 hC
abbrev s_Late___init : Stmt := clsAt (top 28) 0
abbrev nm_Late___init : List Str := ["self", "address", "name"]
theorem sc_Late___init : FnScope nm_Late___init ["self", "address", "name"] (defScope s_Late___init) := ⟨rfl, rfl, rfl, by decide +kernel, rfl, by decide +kernel, by decide +kernel⟩
theorem lk_Late___init_address : (defScope s_Late___init).names.lookup ("address" : Str) = some .local := by decide +kernel
theorem lk_Late___init_name : (defScope s_Late___init).names.lookup ("name" : Str) = some .local := by decide +kernel
theorem lk_Late___init_self : (defScope s_Late___init).names.lookup ("self" : Str) = some .local := by decide +kernel
def mkLate (a0 : (List Nat)) (a1 : (List Nat)) : ((List Nat) × (List Nat)) := (a0, a1)
theorem bd_Late_init (X : Cx) (E : XK) (hX : XOk 0 nm_Late___init (defScope s_Late___init) X) (hM : XCm X E) (fa_Late_address : FldA X.K "Late" "address") (fa_Late_name : FldA X.K "Late" "name") (a0 : (List Nat)) (a1 : (List Nat)) {x dx C : Addr} (hC : ClsA X.K "Late" C) : BI X x dx C ([.un, .d (D.str a0), .d (D.str a1)] : List B) (defBody s_Late___init) [] [("address", (D.str a0)), ("name", (D.str a1))] := (bi_fld hX rfl (vis_l lk_Late___init_self) hC.cl (fa_Late_address.no hC) (ed_var 1 (hX.nm rfl) (hX.vs (vis_l lk_Late___init_address)) rfl) (by first | decide | (simp only [putD]; (repeat' split) <;> simp)) (bi_fld hX rfl (vis_l lk_Late___init_self) hC.cl (fa_Late_name.no hC) (ed_var 2 (hX.nm rfl) (hX.vs (vis_l lk_Late___init_name)) rfl) (by first | decide | (simp only [putD]; (repeat' split) <;> simp)) bi_nil))
abbrev sp_Late_init (K : PySem.W.Frag) : Sp := spJ K "Late" (A := (List Nat) × (List Nat)) (fun a => [.d (D.str a.1), .d (D.str a.2)]) (fun _ => True) (fun a => [("address", (D.str (mkLate a.1 a.2).1)), ("name", (D.str (mkLate a.1 a.2).2))])
theorem ok_Late_init {P : Program} {w : World} {K : PySem.W.Frag} {mg : Str → Option Value} {base : Heap} {f : Addr} {fd : FuncData} (F : Fun K "__init__" "Late.__init__" s_Late___init f fd) (fa_Late_address : FldA K "Late" "address") (fa_Late_name : FldA K "Late" "name") : FnOk P w K mg base (L2.CX P w) 1 f fd ["self", "address", "name"] (sp_Late_init K) := by
  refine init_okJ F sc_Late___init (fun _ => rfl) (fun a hp X E e1 e2 e3 e4 e5 hX hM x dx C hC => ?_)
  subst e1 e2 e3 e4 e5
  exact bd_Late_init X E hX hM fa_Late_address fa_Late_name a.1 a.2 hC
abbrev s_Take___init : Stmt := clsAt (top 29) 0
abbrev nm_Take___init : List Str := ["self", "word", "address", "name"]
theorem sc_Take___init : FnScope nm_Take___init ["self", "word", "address", "name"] (defScope s_Take___init) := ⟨rfl, rfl, rfl, by decide +kernel, rfl, by decide +kernel, by decide +kernel⟩
theorem lk_Take___init_address : (defScope s_Take___init).names.lookup ("address" : Str) = some .local := by decide +kernel
theorem lk_Take___init_name : (defScope s_Take___init).names.lookup ("name" : Str) = some .local := by decide +kernel
theorem lk_Take___init_self : (defScope s_Take___init).names.lookup ("self" : Str) = some .local := by decide +kernel
theorem lk_Take___init_word : (defScope s_Take___init).names.lookup ("word" : Str) = some .local := by decide +kernel
def mkTake (a0 : (List Nat)) (a1 : (List Nat)) (a2 : (List Nat)) : ((List Nat) × (List Nat) × (List Nat)) := (a0, a1, a2)
theorem bd_Take_init (X : Cx) (E : XK) (hX : XOk 0 nm_Take___init (defScope s_Take___init) X) (hM : XCm X E) (fa_Take_address : FldA X.K "Take" "address") (fa_Take_name : FldA X.K "Take" "name") (fa_Take_word : FldA X.K "Take" "word") (a0 : (List Nat)) (a1 : (List Nat)) (a2 : (List Nat)) {x dx C : Addr} (hC : ClsA X.K "Take" C) : BI X x dx C ([.un, .d (D.str a0), .d (D.str a1), .d (D.str a2)] : List B) (defBody s_Take___init) [] [("word", (D.str a0)), ("address", (D.str a1)), ("name", (D.str a2))] := (bi_fld hX rfl (vis_l lk_Take___init_self) hC.cl (fa_Take_word.no hC) (ed_var 1 (hX.nm rfl) (hX.vs (vis_l lk_Take___init_word)) rfl) (by first | decide | (simp only [putD]; (repeat' split) <;> simp)) (bi_fld hX rfl (vis_l lk_Take___init_self) hC.cl (fa_Take_address.no hC) (ed_var 2 (hX.nm rfl) (hX.vs (vis_l lk_Take___init_address)) rfl) (by first | decide | (simp only [putD]; (repeat' split) <;> simp)) (bi_fld hX rfl (vis_l lk_Take___init_self) hC.cl (fa_Take_name.no hC) (ed_var 3 (hX.nm rfl) (hX.vs (vis_l lk_Take___init_name)) rfl) (by first | decide | (simp only [putD]; (repeat' split) <;> simp)) bi_nil)))
abbrev sp_Take_init (K : PySem.W.Frag) : Sp := spJ K "Take" (A := (List Nat) × (List Nat) × (List Nat)) (fun a => [.d (D.str a.1), .d (D.str a.2.1), .d (D.str a.2.2)]) (fun _ => True) (fun a => [("word", (D.str (mkTake a.1 a.2.1 a.2.2).1)), ("address", (D.str (mkTake a.1 a.2.1 a.2.2).2.1)), ("name", (D.str (mkTake a.1 a.2.1 a.2.2).2.2))])
theorem ok_Take_init {P : Program} {w : World} {K : PySem.W.Frag} {mg : Str → Option Value} {base : Heap} {f : Addr} {fd : FuncData} (F : Fun K "__init__" "Take.__init__" s_Take___init f fd) (fa_Take_address : FldA K "Take" "address") (fa_Take_name : FldA K "Take" "name") (fa_Take_word : FldA K "Take" "word") : FnOk P w K mg base (L2.CX P w) 1 f fd ["self", "word", "address", "name"] (sp_Take_init K) := by
  refine init_okJ F sc_Take___init (fun _ => rfl) (fun a hp X E e1 e2 e3 e4 e5 hX hM x dx C hC => ?_)
  subst e1 e2 e3 e4 e5
  exact bd_Take_init X E hX hM fa_Take_address fa_Take_name fa_Take_word a.1 a.2.1 a.2.2 hC
abbrev s_Need___init : Stmt := clsAt (top 30) 0
abbrev nm_Need___init : List Str := ["self", "terms"]
theorem sc_Need___init : FnScope nm_Need___init ["self", "terms"] (defScope s_Need___init) := ⟨rfl, rfl, rfl, by decide +kernel, rfl, by decide +kernel, by decide +kernel⟩
theorem lk_Need___init_list : (defScope s_Need___init).names.lookup ("list" : Str) = some .globalImplicit := by decide +kernel
theorem lk_Need___init_self : (defScope s_Need___init).names.lookup ("self" : Str) = some .local := by decide +kernel
theorem lk_Need___init_terms : (defScope s_Need___init).names.lookup ("terms" : Str) = some .local := by decide +kernel
def mkNeed (a0 : (List (Int × (List Nat) × Thing))) : ((List (Int × (List Nat) × Thing))) := a0
theorem bd_Need_init (X : Cx) (E : XK) (hX : XOk 0 nm_Need___init (defScope s_Need___init) X) (hM : XCm X E) (m_list : X.mg "list" = none) (fa_Need_terms : FldA X.K "Need" "terms") (a0 : (List (Int × (List Nat) × Thing))) {x dx C : Addr} (hC : ClsA X.K "Need" C) : BI X x dx C ([.un, .bor (List.map (fun z : (Int × (List Nat) × Thing) => (D.tup [(D.int z.1), (D.str z.2.1), (encThing z.2.2)])) a0)] : List B) (defBody s_Need___init) [] [("terms", (D.lst (List.map (fun z : (Int × (List Nat) × Thing) => (D.tup [(D.int z.1), (D.str z.2.1), (encThing z.2.2)])) a0)))] := (bi_fld hX rfl (vis_l lk_Need___init_self) hC.cl (fa_Need_terms.no hC) (EvO.frz (eo_listL (hX.gl lk_Need___init_list) m_list (el_bor 1 (hX.nm rfl) (hX.vs (vis_l lk_Need___init_terms)) rfl))) (by first | decide | (simp only [putD]; (repeat' split) <;> simp)) bi_nil)
abbrev sp_Need_init (K : PySem.W.Frag) : Sp := spJ K "Need" (A := (List (Int × (List Nat) × Thing))) (fun a => [.l (List.map (fun z : (Int × (List Nat) × Thing) => (D.tup [(D.int z.1), (D.str z.2.1), (encThing z.2.2)])) a)]) (fun _ => True) (fun a => [("terms", (D.lst (List.map (fun z : (Int × (List Nat) × Thing) => (D.tup [(D.int z.1), (D.str z.2.1), (encThing z.2.2)])) (mkNeed a))))])
theorem ok_Need_init {P : Program} {w : World} {K : PySem.W.Frag} {mg : Str → Option Value} {base : Heap} {f : Addr} {fd : FuncData} (F : Fun K "__init__" "Need.__init__" s_Need___init f fd) (m_list : mg "list" = none) (fa_Need_terms : FldA K "Need" "terms") : FnOk P w K mg base (L2.CX P w) 1 f fd ["self", "terms"] (sp_Need_init K) := by
  refine init_okJ F sc_Need___init (fun _ => rfl) (fun a hp X E e1 e2 e3 e4 e5 hX hM x dx C hC => ?_)
  subst e1 e2 e3 e4 e5
  exact bd_Need_init X E hX hM m_list fa_Need_terms a hC
abbrev s_Let_binds : Stmt := clsAt (top 25) 1
abbrev nm_Let_binds : List Str := ["self"]
theorem sc_Let_binds : FnScope nm_Let_binds ["self"] (defScope s_Let_binds) := ⟨rfl, rfl, rfl, by decide +kernel, rfl, by decide +kernel, by decide +kernel⟩
theorem lk_Let_binds_self : (defScope s_Let_binds).names.lookup ("self" : Str) = some .local := by decide +kernel
noncomputable def c_Let_binds (a0 : ((List Nat) × (List (Int × (List Nat) × Thing)))) : Co Unit Empty (List Nat) := .ret (.ok a0.1)
noncomputable def bindsLet (a0 : ((List Nat) × (List (Int × (List Nat) × Thing)))) : Out (List Nat) := (c_Let_binds a0).out .stk
theorem bd_Let_binds (X : Cx) (E : XK) (hX : XOk 0 nm_Let_binds (defScope s_Let_binds) X) (hM : XCm X E) (fa_Let_name : FldA X.K "Let" "name") (a0 : ((List Nat) × (List (Int × (List Nat) × Thing)))) : BC X E ([.d (D.ins "Let" [("name", (D.str a0.1)), ("terms", (D.lst (List.map (fun z : (Int × (List Nat) × Thing) => (D.tup [(D.int z.1), (D.str z.2.1), (encThing z.2.2)])) a0.2)))])] : List B) (defBody s_Let_binds) (fun s : Unit => List.replicate 1 B.un) (fun s : Empty => nomatch s) (fun z : (List Nat) => Res.v (D.str z)) (c_Let_binds a0) := by
  unfold c_Let_binds
  exact (c_ret (ed_fld (ed_var 0 (hX.nm rfl) (hX.vs (vis_l lk_Let_binds_self)) rfl) fa_Let_name rfl) rfl)
abbrev sp_Let_binds (K : PySem.W.Frag) : Sp := spG K (A := ((List Nat) × (List (Int × (List Nat) × Thing)))) (fun a => [.d (D.ins "Let" [("name", (D.str a.1)), ("terms", (D.lst (List.map (fun z : (Int × (List Nat) × Thing) => (D.tup [(D.int z.1), (D.str z.2.1), (encThing z.2.2)])) a.2)))])]) (fun _ => True) (fun a => rsOf (fun z : (List Nat) => Res.v (D.str z)) (bindsLet a))
theorem ok_Let_binds {P : Program} {w : World} {K : PySem.W.Frag} {mg : Str → Option Value} {base : Heap} {f : Addr} {fd : FuncData} (F : Fun K "binds" "Let.binds" s_Let_binds f fd) (fa_Let_name : FldA K "Let" "name") : FnOk P w K mg base (L2.CX P w) 1 f fd ["self"] (sp_Let_binds K) :=
  def_okC (A := ((List Nat) × (List (Int × (List Nat) × Thing)))) F sc_Let_binds .stk (.inl rfl) (fun _ => rfl) (fun a => c_Let_binds a) (fun a X E e1 e2 e3 e4 e5 hX hM => by
    subst e1 e2 e3 e4 e5
    exact bd_Let_binds X E hX hM fa_Let_name a)
abbrev s_Deed_binds : Stmt := clsAt (top 26) 1
abbrev nm_Deed_binds : List Str := ["self"]
theorem sc_Deed_binds : FnScope nm_Deed_binds ["self"] (defScope s_Deed_binds) := ⟨rfl, rfl, rfl, by decide +kernel, rfl, by decide +kernel, by decide +kernel⟩
theorem lk_Deed_binds_self : (defScope s_Deed_binds).names.lookup ("self" : Str) = some .local := by decide +kernel
noncomputable def c_Deed_binds (a0 : ((List Nat) × (List (Int × (List Nat) × Thing)))) : Co Unit Empty (List Nat) := .ret (.ok a0.1)
noncomputable def bindsDeed (a0 : ((List Nat) × (List (Int × (List Nat) × Thing)))) : Out (List Nat) := (c_Deed_binds a0).out .stk
theorem bd_Deed_binds (X : Cx) (E : XK) (hX : XOk 0 nm_Deed_binds (defScope s_Deed_binds) X) (hM : XCm X E) (fa_Deed_name : FldA X.K "Deed" "name") (a0 : ((List Nat) × (List (Int × (List Nat) × Thing)))) : BC X E ([.d (D.ins "Deed" [("name", (D.str a0.1)), ("terms", (D.lst (List.map (fun z : (Int × (List Nat) × Thing) => (D.tup [(D.int z.1), (D.str z.2.1), (encThing z.2.2)])) a0.2)))])] : List B) (defBody s_Deed_binds) (fun s : Unit => List.replicate 1 B.un) (fun s : Empty => nomatch s) (fun z : (List Nat) => Res.v (D.str z)) (c_Deed_binds a0) := by
  unfold c_Deed_binds
  exact (c_ret (ed_fld (ed_var 0 (hX.nm rfl) (hX.vs (vis_l lk_Deed_binds_self)) rfl) fa_Deed_name rfl) rfl)
abbrev sp_Deed_binds (K : PySem.W.Frag) : Sp := spG K (A := ((List Nat) × (List (Int × (List Nat) × Thing)))) (fun a => [.d (D.ins "Deed" [("name", (D.str a.1)), ("terms", (D.lst (List.map (fun z : (Int × (List Nat) × Thing) => (D.tup [(D.int z.1), (D.str z.2.1), (encThing z.2.2)])) a.2)))])]) (fun _ => True) (fun a => rsOf (fun z : (List Nat) => Res.v (D.str z)) (bindsDeed a))
theorem ok_Deed_binds {P : Program} {w : World} {K : PySem.W.Frag} {mg : Str → Option Value} {base : Heap} {f : Addr} {fd : FuncData} (F : Fun K "binds" "Deed.binds" s_Deed_binds f fd) (fa_Deed_name : FldA K "Deed" "name") : FnOk P w K mg base (L2.CX P w) 1 f fd ["self"] (sp_Deed_binds K) :=
  def_okC (A := ((List Nat) × (List (Int × (List Nat) × Thing)))) F sc_Deed_binds .stk (.inl rfl) (fun _ => rfl) (fun a => c_Deed_binds a) (fun a X E e1 e2 e3 e4 e5 hX hM => by
    subst e1 e2 e3 e4 e5
    exact bd_Deed_binds X E hX hM fa_Deed_name a)
abbrev s_Draw_binds : Stmt := clsAt (top 27) 1
abbrev nm_Draw_binds : List Str := ["self"]
theorem sc_Draw_binds : FnScope nm_Draw_binds ["self"] (defScope s_Draw_binds) := ⟨rfl, rfl, rfl, by decide +kernel, rfl, by decide +kernel, by decide +kernel⟩
theorem lk_Draw_binds_self : (defScope s_Draw_binds).names.lookup ("self" : Str) = some .local := by decide +kernel
noncomputable def c_Draw_binds (a0 : ((List Nat) × (List Nat))) : Co Unit Empty (List Nat) := .ret (.ok a0.2)
noncomputable def bindsDraw (a0 : ((List Nat) × (List Nat))) : Out (List Nat) := (c_Draw_binds a0).out .stk
theorem bd_Draw_binds (X : Cx) (E : XK) (hX : XOk 0 nm_Draw_binds (defScope s_Draw_binds) X) (hM : XCm X E) (fa_Draw_name : FldA X.K "Draw" "name") (a0 : ((List Nat) × (List Nat))) : BC X E ([.d (D.ins "Draw" [("address", (D.str a0.1)), ("name", (D.str a0.2))])] : List B) (defBody s_Draw_binds) (fun s : Unit => List.replicate 1 B.un) (fun s : Empty => nomatch s) (fun z : (List Nat) => Res.v (D.str z)) (c_Draw_binds a0) := by
  unfold c_Draw_binds
  exact (c_ret (ed_fld (ed_var 0 (hX.nm rfl) (hX.vs (vis_l lk_Draw_binds_self)) rfl) fa_Draw_name rfl) rfl)
abbrev sp_Draw_binds (K : PySem.W.Frag) : Sp := spG K (A := ((List Nat) × (List Nat))) (fun a => [.d (D.ins "Draw" [("address", (D.str a.1)), ("name", (D.str a.2))])]) (fun _ => True) (fun a => rsOf (fun z : (List Nat) => Res.v (D.str z)) (bindsDraw a))
theorem ok_Draw_binds {P : Program} {w : World} {K : PySem.W.Frag} {mg : Str → Option Value} {base : Heap} {f : Addr} {fd : FuncData} (F : Fun K "binds" "Draw.binds" s_Draw_binds f fd) (fa_Draw_name : FldA K "Draw" "name") : FnOk P w K mg base (L2.CX P w) 1 f fd ["self"] (sp_Draw_binds K) :=
  def_okC (A := ((List Nat) × (List Nat))) F sc_Draw_binds .stk (.inl rfl) (fun _ => rfl) (fun a => c_Draw_binds a) (fun a X E e1 e2 e3 e4 e5 hX hM => by
    subst e1 e2 e3 e4 e5
    exact bd_Draw_binds X E hX hM fa_Draw_name a)
abbrev s_Late_binds : Stmt := clsAt (top 28) 1
abbrev nm_Late_binds : List Str := ["self"]
theorem sc_Late_binds : FnScope nm_Late_binds ["self"] (defScope s_Late_binds) := ⟨rfl, rfl, rfl, by decide +kernel, rfl, by decide +kernel, by decide +kernel⟩
theorem lk_Late_binds_self : (defScope s_Late_binds).names.lookup ("self" : Str) = some .local := by decide +kernel
noncomputable def c_Late_binds (a0 : ((List Nat) × (List Nat))) : Co Unit Empty (List Nat) := .ret (.ok a0.2)
noncomputable def bindsLate (a0 : ((List Nat) × (List Nat))) : Out (List Nat) := (c_Late_binds a0).out .stk
theorem bd_Late_binds (X : Cx) (E : XK) (hX : XOk 0 nm_Late_binds (defScope s_Late_binds) X) (hM : XCm X E) (fa_Late_name : FldA X.K "Late" "name") (a0 : ((List Nat) × (List Nat))) : BC X E ([.d (D.ins "Late" [("address", (D.str a0.1)), ("name", (D.str a0.2))])] : List B) (defBody s_Late_binds) (fun s : Unit => List.replicate 1 B.un) (fun s : Empty => nomatch s) (fun z : (List Nat) => Res.v (D.str z)) (c_Late_binds a0) := by
  unfold c_Late_binds
  exact (c_ret (ed_fld (ed_var 0 (hX.nm rfl) (hX.vs (vis_l lk_Late_binds_self)) rfl) fa_Late_name rfl) rfl)
abbrev sp_Late_binds (K : PySem.W.Frag) : Sp := spG K (A := ((List Nat) × (List Nat))) (fun a => [.d (D.ins "Late" [("address", (D.str a.1)), ("name", (D.str a.2))])]) (fun _ => True) (fun a => rsOf (fun z : (List Nat) => Res.v (D.str z)) (bindsLate a))
theorem ok_Late_binds {P : Program} {w : World} {K : PySem.W.Frag} {mg : Str → Option Value} {base : Heap} {f : Addr} {fd : FuncData} (F : Fun K "binds" "Late.binds" s_Late_binds f fd) (fa_Late_name : FldA K "Late" "name") : FnOk P w K mg base (L2.CX P w) 1 f fd ["self"] (sp_Late_binds K) :=
  def_okC (A := ((List Nat) × (List Nat))) F sc_Late_binds .stk (.inl rfl) (fun _ => rfl) (fun a => c_Late_binds a) (fun a X E e1 e2 e3 e4 e5 hX hM => by
    subst e1 e2 e3 e4 e5
    exact bd_Late_binds X E hX hM fa_Late_name a)
abbrev s_Take_binds : Stmt := clsAt (top 29) 1
abbrev nm_Take_binds : List Str := ["self"]
theorem sc_Take_binds : FnScope nm_Take_binds ["self"] (defScope s_Take_binds) := ⟨rfl, rfl, rfl, by decide +kernel, rfl, by decide +kernel, by decide +kernel⟩
theorem lk_Take_binds_self : (defScope s_Take_binds).names.lookup ("self" : Str) = some .local := by decide +kernel
noncomputable def c_Take_binds (a0 : ((List Nat) × (List Nat) × (List Nat))) : Co Unit Empty (List Nat) := .ret (.ok a0.2.2)
noncomputable def bindsTake (a0 : ((List Nat) × (List Nat) × (List Nat))) : Out (List Nat) := (c_Take_binds a0).out .stk
theorem bd_Take_binds (X : Cx) (E : XK) (hX : XOk 0 nm_Take_binds (defScope s_Take_binds) X) (hM : XCm X E) (fa_Take_name : FldA X.K "Take" "name") (a0 : ((List Nat) × (List Nat) × (List Nat))) : BC X E ([.d (D.ins "Take" [("word", (D.str a0.1)), ("address", (D.str a0.2.1)), ("name", (D.str a0.2.2))])] : List B) (defBody s_Take_binds) (fun s : Unit => List.replicate 1 B.un) (fun s : Empty => nomatch s) (fun z : (List Nat) => Res.v (D.str z)) (c_Take_binds a0) := by
  unfold c_Take_binds
  exact (c_ret (ed_fld (ed_var 0 (hX.nm rfl) (hX.vs (vis_l lk_Take_binds_self)) rfl) fa_Take_name rfl) rfl)
abbrev sp_Take_binds (K : PySem.W.Frag) : Sp := spG K (A := ((List Nat) × (List Nat) × (List Nat))) (fun a => [.d (D.ins "Take" [("word", (D.str a.1)), ("address", (D.str a.2.1)), ("name", (D.str a.2.2))])]) (fun _ => True) (fun a => rsOf (fun z : (List Nat) => Res.v (D.str z)) (bindsTake a))
theorem ok_Take_binds {P : Program} {w : World} {K : PySem.W.Frag} {mg : Str → Option Value} {base : Heap} {f : Addr} {fd : FuncData} (F : Fun K "binds" "Take.binds" s_Take_binds f fd) (fa_Take_name : FldA K "Take" "name") : FnOk P w K mg base (L2.CX P w) 1 f fd ["self"] (sp_Take_binds K) :=
  def_okC (A := ((List Nat) × (List Nat) × (List Nat))) F sc_Take_binds .stk (.inl rfl) (fun _ => rfl) (fun a => c_Take_binds a) (fun a X E e1 e2 e3 e4 e5 hX hM => by
    subst e1 e2 e3 e4 e5
    exact bd_Take_binds X E hX hM fa_Take_name a)
abbrev s_Row_binds : Stmt := clsAt (top 24) 0
abbrev nm_Row_binds : List Str := ["self"]
theorem sc_Row_binds : FnScope nm_Row_binds ["self"] (defScope s_Row_binds) := ⟨rfl, rfl, rfl, by decide +kernel, rfl, by decide +kernel, by decide +kernel⟩
noncomputable def c_Need_binds (a0 : ((List (Int × (List Nat) × Thing)))) : Co Unit Empty (List Nat) := .ret (.ok ([] : List Nat))
noncomputable def bindsNeed (a0 : ((List (Int × (List Nat) × Thing)))) : Out (List Nat) := (c_Need_binds a0).out .stk
theorem bd_Need_binds (X : Cx) (E : XK) (hX : XOk 0 nm_Row_binds (defScope s_Row_binds) X) (hM : XCm X E) (a0 : ((List (Int × (List Nat) × Thing)))) : BC X E ([.d (D.ins "Need" [("terms", (D.lst (List.map (fun z : (Int × (List Nat) × Thing) => (D.tup [(D.int z.1), (D.str z.2.1), (encThing z.2.2)])) a0)))])] : List B) (defBody s_Row_binds) (fun s : Unit => List.replicate 1 B.un) (fun s : Empty => nomatch s) (fun z : (List Nat) => Res.v (D.str z)) (c_Need_binds a0) := by
  unfold c_Need_binds
  exact (c_ret (ed_str ([] : List Nat) (by decide +kernel) (by decide)) rfl)
abbrev sp_Need_binds (K : PySem.W.Frag) : Sp := spG K (A := ((List (Int × (List Nat) × Thing)))) (fun a => [.d (D.ins "Need" [("terms", (D.lst (List.map (fun z : (Int × (List Nat) × Thing) => (D.tup [(D.int z.1), (D.str z.2.1), (encThing z.2.2)])) a)))])]) (fun _ => True) (fun a => rsOf (fun z : (List Nat) => Res.v (D.str z)) (bindsNeed a))
theorem ok_Need_binds {P : Program} {w : World} {K : PySem.W.Frag} {mg : Str → Option Value} {base : Heap} {f : Addr} {fd : FuncData} (F : Fun K "binds" "Row.binds" s_Row_binds f fd) : FnOk P w K mg base (L2.CX P w) 1 f fd ["self"] (sp_Need_binds K) :=
  def_okC (A := ((List (Int × (List Nat) × Thing)))) F sc_Row_binds .stk (.inl rfl) (fun _ => rfl) (fun a => c_Need_binds a) (fun a X E e1 e2 e3 e4 e5 hX hM => by
    subst e1 e2 e3 e4 e5
    exact bd_Need_binds X E hX hM a)
noncomputable def RowT.M_binds : RowT → Out (List Nat)
  | .Let x0 x1 => bindsLet (x0, x1)
  | .Deed x0 x1 => bindsDeed (x0, x1)
  | .Draw x0 x1 => bindsDraw (x0, x1)
  | .Late x0 x1 => bindsLate (x0, x1)
  | .Take x0 x1 x2 => bindsTake (x0, x1, x2)
  | .Need x0 => bindsNeed (x0)
theorem RowT.meth_binds {X : Cx} {E : L2.St → XK} {Γ : List B} {o : Expr} {pos apos : Pos} {pl : Sem Bool} (k_Let_binds : MethX X "Let" "binds" 1 (sp_Let_binds X.K)) (k_Deed_binds : MethX X "Deed" "binds" 1 (sp_Deed_binds X.K)) (k_Draw_binds : MethX X "Draw" "binds" 1 (sp_Draw_binds X.K)) (k_Late_binds : MethX X "Late" "binds" 1 (sp_Late_binds X.K)) (k_Take_binds : MethX X "Take" "binds" 1 (sp_Take_binds X.K)) (k_Need_binds : MethX X "Need" "binds" 1 (sp_Need_binds X.K)) (tk : PsAt X E) (hr : Room 1 X.A) (r : RowT) (he : ED X Γ o (encRow r)) (ht : eval (.Call (.Attribute o "binds" apos) [] [] pos) X.env = (do
      let ov ← eval o X.env
      standAt apos.atName
      let (f, first) ← holding [ov] (getMethod ov "binds" pl)
      callWith pos f first (backTo pos (starEach [] X.env)) (backToKw pos (keywordEach [] X.env))) := by rfl) : ERs X E Γ (.Call (.Attribute o "binds" apos) [] [] pos) (rsOf (fun z : (List Nat) => Res.v (D.str z)) (RowT.M_binds r)) := by
  cases r with
  | Let x0 x1 => exact es_meth0 (x0, x1) tk k_Let_binds (hr.mono (by decide)) he rfl trivial rfl ht
  | Deed x0 x1 => exact es_meth0 (x0, x1) tk k_Deed_binds (hr.mono (by decide)) he rfl trivial rfl ht
  | Draw x0 x1 => exact es_meth0 (x0, x1) tk k_Draw_binds (hr.mono (by decide)) he rfl trivial rfl ht
  | Late x0 x1 => exact es_meth0 (x0, x1) tk k_Late_binds (hr.mono (by decide)) he rfl trivial rfl ht
  | Take x0 x1 x2 => exact es_meth0 (x0, x1, x2) tk k_Take_binds (hr.mono (by decide)) he rfl trivial rfl ht
  | Need x0 => exact es_meth0 (x0) tk k_Need_binds (hr.mono (by decide)) he rfl trivial rfl ht
abbrev s_Row_asked : Stmt := clsAt (top 24) 1
abbrev nm_Row_asked : List Str := ["self"]
theorem sc_Row_asked : FnScope nm_Row_asked ["self"] (defScope s_Row_asked) := ⟨rfl, rfl, rfl, by decide +kernel, rfl, by decide +kernel, by decide +kernel⟩
noncomputable def c_Let_asked (a0 : ((List Nat) × (List (Int × (List Nat) × Thing)))) : Co Unit Empty (List (List Nat)) := .ret (.ok ([] : List (List Nat)))
noncomputable def askedLet (a0 : ((List Nat) × (List (Int × (List Nat) × Thing)))) : Out (List (List Nat)) := (c_Let_asked a0).out .stk
theorem bd_Let_asked (X : Cx) (E : XK) (hX : XOk 0 nm_Row_asked (defScope s_Row_asked) X) (hM : XCm X E) (a0 : ((List Nat) × (List (Int × (List Nat) × Thing)))) : BC X E ([.d (D.ins "Let" [("name", (D.str a0.1)), ("terms", (D.lst (List.map (fun z : (Int × (List Nat) × Thing) => (D.tup [(D.int z.1), (D.str z.2.1), (encThing z.2.2)])) a0.2)))])] : List B) (defBody s_Row_asked) (fun s : Unit => List.replicate 1 B.un) (fun s : Empty => nomatch s) (fun z : (List (List Nat)) => Res.o (OO.lst (List.map D.str z))) (c_Let_asked a0) := by
  unfold c_Let_asked
  exact (c_retO (eo_lst ea_nil (by show 0 ≤ sizeLine; decide)) rfl)
abbrev sp_Let_asked (K : PySem.W.Frag) : Sp := spG K (A := ((List Nat) × (List (Int × (List Nat) × Thing)))) (fun a => [.d (D.ins "Let" [("name", (D.str a.1)), ("terms", (D.lst (List.map (fun z : (Int × (List Nat) × Thing) => (D.tup [(D.int z.1), (D.str z.2.1), (encThing z.2.2)])) a.2)))])]) (fun _ => True) (fun a => rsOf (fun z : (List (List Nat)) => Res.o (OO.lst (List.map D.str z))) (askedLet a))
theorem ok_Let_asked {P : Program} {w : World} {K : PySem.W.Frag} {mg : Str → Option Value} {base : Heap} {f : Addr} {fd : FuncData} (F : Fun K "asked" "Row.asked" s_Row_asked f fd) : FnOk P w K mg base (L2.CX P w) 1 f fd ["self"] (sp_Let_asked K) :=
  def_okC (A := ((List Nat) × (List (Int × (List Nat) × Thing)))) F sc_Row_asked .stk (.inl rfl) (fun _ => rfl) (fun a => c_Let_asked a) (fun a X E e1 e2 e3 e4 e5 hX hM => by
    subst e1 e2 e3 e4 e5
    exact bd_Let_asked X E hX hM a)
noncomputable def c_Deed_asked (a0 : ((List Nat) × (List (Int × (List Nat) × Thing)))) : Co Unit Empty (List (List Nat)) := .ret (.ok ([] : List (List Nat)))
noncomputable def askedDeed (a0 : ((List Nat) × (List (Int × (List Nat) × Thing)))) : Out (List (List Nat)) := (c_Deed_asked a0).out .stk
theorem bd_Deed_asked (X : Cx) (E : XK) (hX : XOk 0 nm_Row_asked (defScope s_Row_asked) X) (hM : XCm X E) (a0 : ((List Nat) × (List (Int × (List Nat) × Thing)))) : BC X E ([.d (D.ins "Deed" [("name", (D.str a0.1)), ("terms", (D.lst (List.map (fun z : (Int × (List Nat) × Thing) => (D.tup [(D.int z.1), (D.str z.2.1), (encThing z.2.2)])) a0.2)))])] : List B) (defBody s_Row_asked) (fun s : Unit => List.replicate 1 B.un) (fun s : Empty => nomatch s) (fun z : (List (List Nat)) => Res.o (OO.lst (List.map D.str z))) (c_Deed_asked a0) := by
  unfold c_Deed_asked
  exact (c_retO (eo_lst ea_nil (by show 0 ≤ sizeLine; decide)) rfl)
abbrev sp_Deed_asked (K : PySem.W.Frag) : Sp := spG K (A := ((List Nat) × (List (Int × (List Nat) × Thing)))) (fun a => [.d (D.ins "Deed" [("name", (D.str a.1)), ("terms", (D.lst (List.map (fun z : (Int × (List Nat) × Thing) => (D.tup [(D.int z.1), (D.str z.2.1), (encThing z.2.2)])) a.2)))])]) (fun _ => True) (fun a => rsOf (fun z : (List (List Nat)) => Res.o (OO.lst (List.map D.str z))) (askedDeed a))
theorem ok_Deed_asked {P : Program} {w : World} {K : PySem.W.Frag} {mg : Str → Option Value} {base : Heap} {f : Addr} {fd : FuncData} (F : Fun K "asked" "Row.asked" s_Row_asked f fd) : FnOk P w K mg base (L2.CX P w) 1 f fd ["self"] (sp_Deed_asked K) :=
  def_okC (A := ((List Nat) × (List (Int × (List Nat) × Thing)))) F sc_Row_asked .stk (.inl rfl) (fun _ => rfl) (fun a => c_Deed_asked a) (fun a X E e1 e2 e3 e4 e5 hX hM => by
    subst e1 e2 e3 e4 e5
    exact bd_Deed_asked X E hX hM a)
abbrev s_Draw_asked : Stmt := clsAt (top 27) 2
abbrev nm_Draw_asked : List Str := ["self"]
theorem sc_Draw_asked : FnScope nm_Draw_asked ["self"] (defScope s_Draw_asked) := ⟨rfl, rfl, rfl, by decide +kernel, rfl, by decide +kernel, by decide +kernel⟩
theorem lk_Draw_asked_self : (defScope s_Draw_asked).names.lookup ("self" : Str) = some .local := by decide +kernel
noncomputable def c_Draw_asked (a0 : ((List Nat) × (List Nat))) : Co Unit Empty (List (List Nat)) := .ret (.ok ([a0.1] : List (List Nat)))
noncomputable def askedDraw (a0 : ((List Nat) × (List Nat))) : Out (List (List Nat)) := (c_Draw_asked a0).out .stk
theorem bd_Draw_asked (X : Cx) (E : XK) (hX : XOk 0 nm_Draw_asked (defScope s_Draw_asked) X) (hM : XCm X E) (fa_Draw_address : FldA X.K "Draw" "address") (a0 : ((List Nat) × (List Nat))) : BC X E ([.d (D.ins "Draw" [("address", (D.str a0.1)), ("name", (D.str a0.2))])] : List B) (defBody s_Draw_asked) (fun s : Unit => List.replicate 1 B.un) (fun s : Empty => nomatch s) (fun z : (List (List Nat)) => Res.o (OO.lst (List.map D.str z))) (c_Draw_asked a0) := by
  unfold c_Draw_asked
  exact (c_retO (eo_lst (ea_cons (ed_fld (ed_var 0 (hX.nm rfl) (hX.vs (vis_l lk_Draw_asked_self)) rfl) fa_Draw_address rfl) ea_nil) (by show 1 ≤ sizeLine; decide)) rfl)
abbrev sp_Draw_asked (K : PySem.W.Frag) : Sp := spG K (A := ((List Nat) × (List Nat))) (fun a => [.d (D.ins "Draw" [("address", (D.str a.1)), ("name", (D.str a.2))])]) (fun _ => True) (fun a => rsOf (fun z : (List (List Nat)) => Res.o (OO.lst (List.map D.str z))) (askedDraw a))
theorem ok_Draw_asked {P : Program} {w : World} {K : PySem.W.Frag} {mg : Str → Option Value} {base : Heap} {f : Addr} {fd : FuncData} (F : Fun K "asked" "Draw.asked" s_Draw_asked f fd) (fa_Draw_address : FldA K "Draw" "address") : FnOk P w K mg base (L2.CX P w) 1 f fd ["self"] (sp_Draw_asked K) :=
  def_okC (A := ((List Nat) × (List Nat))) F sc_Draw_asked .stk (.inl rfl) (fun _ => rfl) (fun a => c_Draw_asked a) (fun a X E e1 e2 e3 e4 e5 hX hM => by
    subst e1 e2 e3 e4 e5
    exact bd_Draw_asked X E hX hM fa_Draw_address a)
abbrev s_Late_asked : Stmt := clsAt (top 28) 2
abbrev nm_Late_asked : List Str := ["self"]
theorem sc_Late_asked : FnScope nm_Late_asked ["self"] (defScope s_Late_asked) := ⟨rfl, rfl, rfl, by decide +kernel, rfl, by decide +kernel, by decide +kernel⟩
theorem lk_Late_asked_self : (defScope s_Late_asked).names.lookup ("self" : Str) = some .local := by decide +kernel
noncomputable def c_Late_asked (a0 : ((List Nat) × (List Nat))) : Co Unit Empty (List (List Nat)) := .ret (.ok ([a0.1] : List (List Nat)))
noncomputable def askedLate (a0 : ((List Nat) × (List Nat))) : Out (List (List Nat)) := (c_Late_asked a0).out .stk
theorem bd_Late_asked (X : Cx) (E : XK) (hX : XOk 0 nm_Late_asked (defScope s_Late_asked) X) (hM : XCm X E) (fa_Late_address : FldA X.K "Late" "address") (a0 : ((List Nat) × (List Nat))) : BC X E ([.d (D.ins "Late" [("address", (D.str a0.1)), ("name", (D.str a0.2))])] : List B) (defBody s_Late_asked) (fun s : Unit => List.replicate 1 B.un) (fun s : Empty => nomatch s) (fun z : (List (List Nat)) => Res.o (OO.lst (List.map D.str z))) (c_Late_asked a0) := by
  unfold c_Late_asked
  exact (c_retO (eo_lst (ea_cons (ed_fld (ed_var 0 (hX.nm rfl) (hX.vs (vis_l lk_Late_asked_self)) rfl) fa_Late_address rfl) ea_nil) (by show 1 ≤ sizeLine; decide)) rfl)
abbrev sp_Late_asked (K : PySem.W.Frag) : Sp := spG K (A := ((List Nat) × (List Nat))) (fun a => [.d (D.ins "Late" [("address", (D.str a.1)), ("name", (D.str a.2))])]) (fun _ => True) (fun a => rsOf (fun z : (List (List Nat)) => Res.o (OO.lst (List.map D.str z))) (askedLate a))
theorem ok_Late_asked {P : Program} {w : World} {K : PySem.W.Frag} {mg : Str → Option Value} {base : Heap} {f : Addr} {fd : FuncData} (F : Fun K "asked" "Late.asked" s_Late_asked f fd) (fa_Late_address : FldA K "Late" "address") : FnOk P w K mg base (L2.CX P w) 1 f fd ["self"] (sp_Late_asked K) :=
  def_okC (A := ((List Nat) × (List Nat))) F sc_Late_asked .stk (.inl rfl) (fun _ => rfl) (fun a => c_Late_asked a) (fun a X E e1 e2 e3 e4 e5 hX hM => by
    subst e1 e2 e3 e4 e5
    exact bd_Late_asked X E hX hM fa_Late_address a)
abbrev s_Take_asked : Stmt := clsAt (top 29) 2
abbrev nm_Take_asked : List Str := ["self"]
theorem sc_Take_asked : FnScope nm_Take_asked ["self"] (defScope s_Take_asked) := ⟨rfl, rfl, rfl, by decide +kernel, rfl, by decide +kernel, by decide +kernel⟩
theorem lk_Take_asked_self : (defScope s_Take_asked).names.lookup ("self" : Str) = some .local := by decide +kernel
noncomputable def c_Take_asked (a0 : ((List Nat) × (List Nat) × (List Nat))) : Co Unit Empty (List (List Nat)) := .ret (.ok ([a0.2.1] : List (List Nat)))
noncomputable def askedTake (a0 : ((List Nat) × (List Nat) × (List Nat))) : Out (List (List Nat)) := (c_Take_asked a0).out .stk
theorem bd_Take_asked (X : Cx) (E : XK) (hX : XOk 0 nm_Take_asked (defScope s_Take_asked) X) (hM : XCm X E) (fa_Take_address : FldA X.K "Take" "address") (a0 : ((List Nat) × (List Nat) × (List Nat))) : BC X E ([.d (D.ins "Take" [("word", (D.str a0.1)), ("address", (D.str a0.2.1)), ("name", (D.str a0.2.2))])] : List B) (defBody s_Take_asked) (fun s : Unit => List.replicate 1 B.un) (fun s : Empty => nomatch s) (fun z : (List (List Nat)) => Res.o (OO.lst (List.map D.str z))) (c_Take_asked a0) := by
  unfold c_Take_asked
  exact (c_retO (eo_lst (ea_cons (ed_fld (ed_var 0 (hX.nm rfl) (hX.vs (vis_l lk_Take_asked_self)) rfl) fa_Take_address rfl) ea_nil) (by show 1 ≤ sizeLine; decide)) rfl)
abbrev sp_Take_asked (K : PySem.W.Frag) : Sp := spG K (A := ((List Nat) × (List Nat) × (List Nat))) (fun a => [.d (D.ins "Take" [("word", (D.str a.1)), ("address", (D.str a.2.1)), ("name", (D.str a.2.2))])]) (fun _ => True) (fun a => rsOf (fun z : (List (List Nat)) => Res.o (OO.lst (List.map D.str z))) (askedTake a))
theorem ok_Take_asked {P : Program} {w : World} {K : PySem.W.Frag} {mg : Str → Option Value} {base : Heap} {f : Addr} {fd : FuncData} (F : Fun K "asked" "Take.asked" s_Take_asked f fd) (fa_Take_address : FldA K "Take" "address") : FnOk P w K mg base (L2.CX P w) 1 f fd ["self"] (sp_Take_asked K) :=
  def_okC (A := ((List Nat) × (List Nat) × (List Nat))) F sc_Take_asked .stk (.inl rfl) (fun _ => rfl) (fun a => c_Take_asked a) (fun a X E e1 e2 e3 e4 e5 hX hM => by
    subst e1 e2 e3 e4 e5
    exact bd_Take_asked X E hX hM fa_Take_address a)
noncomputable def c_Need_asked (a0 : ((List (Int × (List Nat) × Thing)))) : Co Unit Empty (List (List Nat)) := .ret (.ok ([] : List (List Nat)))
noncomputable def askedNeed (a0 : ((List (Int × (List Nat) × Thing)))) : Out (List (List Nat)) := (c_Need_asked a0).out .stk
theorem bd_Need_asked (X : Cx) (E : XK) (hX : XOk 0 nm_Row_asked (defScope s_Row_asked) X) (hM : XCm X E) (a0 : ((List (Int × (List Nat) × Thing)))) : BC X E ([.d (D.ins "Need" [("terms", (D.lst (List.map (fun z : (Int × (List Nat) × Thing) => (D.tup [(D.int z.1), (D.str z.2.1), (encThing z.2.2)])) a0)))])] : List B) (defBody s_Row_asked) (fun s : Unit => List.replicate 1 B.un) (fun s : Empty => nomatch s) (fun z : (List (List Nat)) => Res.o (OO.lst (List.map D.str z))) (c_Need_asked a0) := by
  unfold c_Need_asked
  exact (c_retO (eo_lst ea_nil (by show 0 ≤ sizeLine; decide)) rfl)
abbrev sp_Need_asked (K : PySem.W.Frag) : Sp := spG K (A := ((List (Int × (List Nat) × Thing)))) (fun a => [.d (D.ins "Need" [("terms", (D.lst (List.map (fun z : (Int × (List Nat) × Thing) => (D.tup [(D.int z.1), (D.str z.2.1), (encThing z.2.2)])) a)))])]) (fun _ => True) (fun a => rsOf (fun z : (List (List Nat)) => Res.o (OO.lst (List.map D.str z))) (askedNeed a))
theorem ok_Need_asked {P : Program} {w : World} {K : PySem.W.Frag} {mg : Str → Option Value} {base : Heap} {f : Addr} {fd : FuncData} (F : Fun K "asked" "Row.asked" s_Row_asked f fd) : FnOk P w K mg base (L2.CX P w) 1 f fd ["self"] (sp_Need_asked K) :=
  def_okC (A := ((List (Int × (List Nat) × Thing)))) F sc_Row_asked .stk (.inl rfl) (fun _ => rfl) (fun a => c_Need_asked a) (fun a X E e1 e2 e3 e4 e5 hX hM => by
    subst e1 e2 e3 e4 e5
    exact bd_Need_asked X E hX hM a)
noncomputable def RowT.M_asked : RowT → Out (List (List Nat))
  | .Let x0 x1 => askedLet (x0, x1)
  | .Deed x0 x1 => askedDeed (x0, x1)
  | .Draw x0 x1 => askedDraw (x0, x1)
  | .Late x0 x1 => askedLate (x0, x1)
  | .Take x0 x1 x2 => askedTake (x0, x1, x2)
  | .Need x0 => askedNeed (x0)
theorem RowT.meth_asked {X : Cx} {E : L2.St → XK} {Γ : List B} {o : Expr} {pos apos : Pos} {pl : Sem Bool} (k_Let_asked : MethX X "Let" "asked" 1 (sp_Let_asked X.K)) (k_Deed_asked : MethX X "Deed" "asked" 1 (sp_Deed_asked X.K)) (k_Draw_asked : MethX X "Draw" "asked" 1 (sp_Draw_asked X.K)) (k_Late_asked : MethX X "Late" "asked" 1 (sp_Late_asked X.K)) (k_Take_asked : MethX X "Take" "asked" 1 (sp_Take_asked X.K)) (k_Need_asked : MethX X "Need" "asked" 1 (sp_Need_asked X.K)) (tk : PsAt X E) (hr : Room 1 X.A) (r : RowT) (he : ED X Γ o (encRow r)) (ht : eval (.Call (.Attribute o "asked" apos) [] [] pos) X.env = (do
      let ov ← eval o X.env
      standAt apos.atName
      let (f, first) ← holding [ov] (getMethod ov "asked" pl)
      callWith pos f first (backTo pos (starEach [] X.env)) (backToKw pos (keywordEach [] X.env))) := by rfl) : ERs X E Γ (.Call (.Attribute o "asked" apos) [] [] pos) (rsOf (fun z : (List (List Nat)) => Res.o (OO.lst (List.map D.str z))) (RowT.M_asked r)) := by
  cases r with
  | Let x0 x1 => exact es_meth0 (x0, x1) tk k_Let_asked (hr.mono (by decide)) he rfl trivial rfl ht
  | Deed x0 x1 => exact es_meth0 (x0, x1) tk k_Deed_asked (hr.mono (by decide)) he rfl trivial rfl ht
  | Draw x0 x1 => exact es_meth0 (x0, x1) tk k_Draw_asked (hr.mono (by decide)) he rfl trivial rfl ht
  | Late x0 x1 => exact es_meth0 (x0, x1) tk k_Late_asked (hr.mono (by decide)) he rfl trivial rfl ht
  | Take x0 x1 x2 => exact es_meth0 (x0, x1, x2) tk k_Take_asked (hr.mono (by decide)) he rfl trivial rfl ht
  | Need x0 => exact es_meth0 (x0) tk k_Need_asked (hr.mono (by decide)) he rfl trivial rfl ht
abbrev s_Let_said : Stmt := clsAt (top 25) 2
abbrev nm_Let_said : List Str := ["self"]
theorem sc_Let_said : FnScope nm_Let_said ["self"] (defScope s_Let_said) := ⟨rfl, rfl, rfl, by decide +kernel, rfl, by decide +kernel, by decide +kernel⟩
theorem lk_Let_said_self : (defScope s_Let_said).names.lookup ("self" : Str) = some .local := by decide +kernel
theorem lk_Let_said_show_expr : (defScope s_Let_said).names.lookup ("show_expr" : Str) = some .globalImplicit := by decide +kernel
noncomputable def c_Let_said (a0 : ((List Nat) × (List (Int × (List Nat) × Thing)))) : Co Unit Empty (List Nat) := chk ((([108, 101, 116, 32] : List Nat).length + a0.1.length ≤ LMax) ∧ ((([108, 101, 116, 32] : List Nat) ++ a0.1).length + ([32, 98, 101, 32] : List Nat).length ≤ LMax) ∧ (((showF a0.2)).IsOk) ∧ (((([108, 101, 116, 32] : List Nat) ++ a0.1) ++ ([32, 98, 101, 32] : List Nat)).length + ((showF a0.2).get []).length ≤ LMax)) (.ret (.ok (((([108, 101, 116, 32] : List Nat) ++ a0.1) ++ ([32, 98, 101, 32] : List Nat)) ++ ((showF a0.2).get []))))
noncomputable def saidLet (a0 : ((List Nat) × (List (Int × (List Nat) × Thing)))) : Out (List Nat) := (c_Let_said a0).out .stk
theorem bd_Let_said (X : Cx) (E : XK) (hX : XOk 2 nm_Let_said (defScope s_Let_said) X) (hM : XCm X E) (kn_show_expr : KnX X "show_expr" 2 (sp_show_expr X.K)) (fa_Let_name : FldA X.K "Let" "name") (fa_Let_terms : FldA X.K "Let" "terms") (a0 : ((List Nat) × (List (Int × (List Nat) × Thing)))) : BC X E ([.d (D.ins "Let" [("name", (D.str a0.1)), ("terms", (D.lst (List.map (fun z : (Int × (List Nat) × Thing) => (D.tup [(D.int z.1), (D.str z.2.1), (encThing z.2.2)])) a0.2)))])] : List B) (defBody s_Let_said) (fun s : Unit => List.replicate 1 B.un) (fun s : Empty => nomatch s) (fun z : (List Nat) => Res.v (D.str z)) (c_Let_said a0) := by
  unfold c_Let_said
  exact (c_chk (fun h5 => (have ⟨c1, c2, c3, c4⟩ := h5; (c_ret (ed_op (od_addS _ _ c4) (ed_op (od_addS _ _ c2) (ed_op (od_addS _ _ c1) (ed_str ([108, 101, 116, 32] : List Nat) (by decide +kernel) (by decide)) (ed_fld (ed_var 0 (hX.nm rfl) (hX.vs (vis_l lk_Let_said_self)) rfl) fa_Let_name rfl)) (ed_str ([32, 98, 101, 32] : List Nat) (by decide +kernel) (by decide))) (ed_okS (z := D.str) [] (fun E tk => (es_call (E := E) a0.2 tk kn_show_expr (hM.room hX (by decide)) (hX.gl lk_Let_said_show_expr) (ea2_d (ed_fld (ed_var 0 (hX.nm rfl) (hX.vs (vis_l lk_Let_said_self)) rfl) fa_Let_terms rfl) ea2_nil) trivial)) (fun _ => rfl) c3)) rfl))))
abbrev sp_Let_said (K : PySem.W.Frag) : Sp := spG K (A := ((List Nat) × (List (Int × (List Nat) × Thing)))) (fun a => [.d (D.ins "Let" [("name", (D.str a.1)), ("terms", (D.lst (List.map (fun z : (Int × (List Nat) × Thing) => (D.tup [(D.int z.1), (D.str z.2.1), (encThing z.2.2)])) a.2)))])]) (fun _ => True) (fun a => rsOf (fun z : (List Nat) => Res.v (D.str z)) (saidLet a))
theorem ok_Let_said {P : Program} {w : World} {K : PySem.W.Frag} {mg : Str → Option Value} {base : Heap} {f : Addr} {fd : FuncData} (F : Fun K "said" "Let.said" s_Let_said f fd) (kn_show_expr : Kn P w K mg base "show_expr" 2 (sp_show_expr K)) (fa_Let_name : FldA K "Let" "name") (fa_Let_terms : FldA K "Let" "terms") : FnOk P w K mg base (L2.CX P w) 3 f fd ["self"] (sp_Let_said K) :=
  def_okC (A := ((List Nat) × (List (Int × (List Nat) × Thing)))) F sc_Let_said .stk (.inl rfl) (fun _ => rfl) (fun a => c_Let_said a) (fun a X E e1 e2 e3 e4 e5 hX hM => by
    subst e1 e2 e3 e4 e5
    exact bd_Let_said X E hX hM kn_show_expr fa_Let_name fa_Let_terms a)
abbrev s_Deed_said : Stmt := clsAt (top 26) 2
abbrev nm_Deed_said : List Str := ["self"]
theorem sc_Deed_said : FnScope nm_Deed_said ["self"] (defScope s_Deed_said) := ⟨rfl, rfl, rfl, by decide +kernel, rfl, by decide +kernel, by decide +kernel⟩
theorem lk_Deed_said_self : (defScope s_Deed_said).names.lookup ("self" : Str) = some .local := by decide +kernel
theorem lk_Deed_said_show_expr : (defScope s_Deed_said).names.lookup ("show_expr" : Str) = some .globalImplicit := by decide +kernel
noncomputable def c_Deed_said (a0 : ((List Nat) × (List (Int × (List Nat) × Thing)))) : Co Unit Empty (List Nat) := chk ((([100, 101, 101, 100, 32] : List Nat).length + a0.1.length ≤ LMax) ∧ ((([100, 101, 101, 100, 32] : List Nat) ++ a0.1).length + ([32, 98, 101, 32] : List Nat).length ≤ LMax) ∧ (((showF a0.2)).IsOk) ∧ (((([100, 101, 101, 100, 32] : List Nat) ++ a0.1) ++ ([32, 98, 101, 32] : List Nat)).length + ((showF a0.2).get []).length ≤ LMax)) (.ret (.ok (((([100, 101, 101, 100, 32] : List Nat) ++ a0.1) ++ ([32, 98, 101, 32] : List Nat)) ++ ((showF a0.2).get []))))
noncomputable def saidDeed (a0 : ((List Nat) × (List (Int × (List Nat) × Thing)))) : Out (List Nat) := (c_Deed_said a0).out .stk
theorem bd_Deed_said (X : Cx) (E : XK) (hX : XOk 2 nm_Deed_said (defScope s_Deed_said) X) (hM : XCm X E) (kn_show_expr : KnX X "show_expr" 2 (sp_show_expr X.K)) (fa_Deed_name : FldA X.K "Deed" "name") (fa_Deed_terms : FldA X.K "Deed" "terms") (a0 : ((List Nat) × (List (Int × (List Nat) × Thing)))) : BC X E ([.d (D.ins "Deed" [("name", (D.str a0.1)), ("terms", (D.lst (List.map (fun z : (Int × (List Nat) × Thing) => (D.tup [(D.int z.1), (D.str z.2.1), (encThing z.2.2)])) a0.2)))])] : List B) (defBody s_Deed_said) (fun s : Unit => List.replicate 1 B.un) (fun s : Empty => nomatch s) (fun z : (List Nat) => Res.v (D.str z)) (c_Deed_said a0) := by
  unfold c_Deed_said
  exact (c_chk (fun h5 => (have ⟨c1, c2, c3, c4⟩ := h5; (c_ret (ed_op (od_addS _ _ c4) (ed_op (od_addS _ _ c2) (ed_op (od_addS _ _ c1) (ed_str ([100, 101, 101, 100, 32] : List Nat) (by decide +kernel) (by decide)) (ed_fld (ed_var 0 (hX.nm rfl) (hX.vs (vis_l lk_Deed_said_self)) rfl) fa_Deed_name rfl)) (ed_str ([32, 98, 101, 32] : List Nat) (by decide +kernel) (by decide))) (ed_okS (z := D.str) [] (fun E tk => (es_call (E := E) a0.2 tk kn_show_expr (hM.room hX (by decide)) (hX.gl lk_Deed_said_show_expr) (ea2_d (ed_fld (ed_var 0 (hX.nm rfl) (hX.vs (vis_l lk_Deed_said_self)) rfl) fa_Deed_terms rfl) ea2_nil) trivial)) (fun _ => rfl) c3)) rfl))))
abbrev sp_Deed_said (K : PySem.W.Frag) : Sp := spG K (A := ((List Nat) × (List (Int × (List Nat) × Thing)))) (fun a => [.d (D.ins "Deed" [("name", (D.str a.1)), ("terms", (D.lst (List.map (fun z : (Int × (List Nat) × Thing) => (D.tup [(D.int z.1), (D.str z.2.1), (encThing z.2.2)])) a.2)))])]) (fun _ => True) (fun a => rsOf (fun z : (List Nat) => Res.v (D.str z)) (saidDeed a))
theorem ok_Deed_said {P : Program} {w : World} {K : PySem.W.Frag} {mg : Str → Option Value} {base : Heap} {f : Addr} {fd : FuncData} (F : Fun K "said" "Deed.said" s_Deed_said f fd) (kn_show_expr : Kn P w K mg base "show_expr" 2 (sp_show_expr K)) (fa_Deed_name : FldA K "Deed" "name") (fa_Deed_terms : FldA K "Deed" "terms") : FnOk P w K mg base (L2.CX P w) 3 f fd ["self"] (sp_Deed_said K) :=
  def_okC (A := ((List Nat) × (List (Int × (List Nat) × Thing)))) F sc_Deed_said .stk (.inl rfl) (fun _ => rfl) (fun a => c_Deed_said a) (fun a X E e1 e2 e3 e4 e5 hX hM => by
    subst e1 e2 e3 e4 e5
    exact bd_Deed_said X E hX hM kn_show_expr fa_Deed_name fa_Deed_terms a)
abbrev s_Draw_said : Stmt := clsAt (top 27) 3
abbrev nm_Draw_said : List Str := ["self"]
theorem sc_Draw_said : FnScope nm_Draw_said ["self"] (defScope s_Draw_said) := ⟨rfl, rfl, rfl, by decide +kernel, rfl, by decide +kernel, by decide +kernel⟩
theorem lk_Draw_said_self : (defScope s_Draw_said).names.lookup ("self" : Str) = some .local := by decide +kernel
noncomputable def c_Draw_said (a0 : ((List Nat) × (List Nat))) : Co Unit Empty (List Nat) := chk ((([100, 114, 97, 119, 32] : List Nat).length + a0.1.length ≤ LMax) ∧ ((([100, 114, 97, 119, 32] : List Nat) ++ a0.1).length + ([32, 97, 115, 32] : List Nat).length ≤ LMax) ∧ (((([100, 114, 97, 119, 32] : List Nat) ++ a0.1) ++ ([32, 97, 115, 32] : List Nat)).length + a0.2.length ≤ LMax)) (.ret (.ok (((([100, 114, 97, 119, 32] : List Nat) ++ a0.1) ++ ([32, 97, 115, 32] : List Nat)) ++ a0.2)))
noncomputable def saidDraw (a0 : ((List Nat) × (List Nat))) : Out (List Nat) := (c_Draw_said a0).out .stk
theorem bd_Draw_said (X : Cx) (E : XK) (hX : XOk 0 nm_Draw_said (defScope s_Draw_said) X) (hM : XCm X E) (fa_Draw_address : FldA X.K "Draw" "address") (fa_Draw_name : FldA X.K "Draw" "name") (a0 : ((List Nat) × (List Nat))) : BC X E ([.d (D.ins "Draw" [("address", (D.str a0.1)), ("name", (D.str a0.2))])] : List B) (defBody s_Draw_said) (fun s : Unit => List.replicate 1 B.un) (fun s : Empty => nomatch s) (fun z : (List Nat) => Res.v (D.str z)) (c_Draw_said a0) := by
  unfold c_Draw_said
  exact (c_chk (fun h4 => (have ⟨c1, c2, c3⟩ := h4; (c_ret (ed_op (od_addS _ _ c3) (ed_op (od_addS _ _ c2) (ed_op (od_addS _ _ c1) (ed_str ([100, 114, 97, 119, 32] : List Nat) (by decide +kernel) (by decide)) (ed_fld (ed_var 0 (hX.nm rfl) (hX.vs (vis_l lk_Draw_said_self)) rfl) fa_Draw_address rfl)) (ed_str ([32, 97, 115, 32] : List Nat) (by decide +kernel) (by decide))) (ed_fld (ed_var 0 (hX.nm rfl) (hX.vs (vis_l lk_Draw_said_self)) rfl) fa_Draw_name rfl)) rfl))))
abbrev sp_Draw_said (K : PySem.W.Frag) : Sp := spG K (A := ((List Nat) × (List Nat))) (fun a => [.d (D.ins "Draw" [("address", (D.str a.1)), ("name", (D.str a.2))])]) (fun _ => True) (fun a => rsOf (fun z : (List Nat) => Res.v (D.str z)) (saidDraw a))
theorem ok_Draw_said {P : Program} {w : World} {K : PySem.W.Frag} {mg : Str → Option Value} {base : Heap} {f : Addr} {fd : FuncData} (F : Fun K "said" "Draw.said" s_Draw_said f fd) (fa_Draw_address : FldA K "Draw" "address") (fa_Draw_name : FldA K "Draw" "name") : FnOk P w K mg base (L2.CX P w) 1 f fd ["self"] (sp_Draw_said K) :=
  def_okC (A := ((List Nat) × (List Nat))) F sc_Draw_said .stk (.inl rfl) (fun _ => rfl) (fun a => c_Draw_said a) (fun a X E e1 e2 e3 e4 e5 hX hM => by
    subst e1 e2 e3 e4 e5
    exact bd_Draw_said X E hX hM fa_Draw_address fa_Draw_name a)
abbrev s_Late_said : Stmt := clsAt (top 28) 3
abbrev nm_Late_said : List Str := ["self"]
theorem sc_Late_said : FnScope nm_Late_said ["self"] (defScope s_Late_said) := ⟨rfl, rfl, rfl, by decide +kernel, rfl, by decide +kernel, by decide +kernel⟩
theorem lk_Late_said_self : (defScope s_Late_said).names.lookup ("self" : Str) = some .local := by decide +kernel
noncomputable def c_Late_said (a0 : ((List Nat) × (List Nat))) : Co Unit Empty (List Nat) := chk ((([108, 97, 116, 101, 32] : List Nat).length + a0.1.length ≤ LMax) ∧ ((([108, 97, 116, 101, 32] : List Nat) ++ a0.1).length + ([32, 97, 115, 32] : List Nat).length ≤ LMax) ∧ (((([108, 97, 116, 101, 32] : List Nat) ++ a0.1) ++ ([32, 97, 115, 32] : List Nat)).length + a0.2.length ≤ LMax)) (.ret (.ok (((([108, 97, 116, 101, 32] : List Nat) ++ a0.1) ++ ([32, 97, 115, 32] : List Nat)) ++ a0.2)))
noncomputable def saidLate (a0 : ((List Nat) × (List Nat))) : Out (List Nat) := (c_Late_said a0).out .stk
theorem bd_Late_said (X : Cx) (E : XK) (hX : XOk 0 nm_Late_said (defScope s_Late_said) X) (hM : XCm X E) (fa_Late_address : FldA X.K "Late" "address") (fa_Late_name : FldA X.K "Late" "name") (a0 : ((List Nat) × (List Nat))) : BC X E ([.d (D.ins "Late" [("address", (D.str a0.1)), ("name", (D.str a0.2))])] : List B) (defBody s_Late_said) (fun s : Unit => List.replicate 1 B.un) (fun s : Empty => nomatch s) (fun z : (List Nat) => Res.v (D.str z)) (c_Late_said a0) := by
  unfold c_Late_said
  exact (c_chk (fun h4 => (have ⟨c1, c2, c3⟩ := h4; (c_ret (ed_op (od_addS _ _ c3) (ed_op (od_addS _ _ c2) (ed_op (od_addS _ _ c1) (ed_str ([108, 97, 116, 101, 32] : List Nat) (by decide +kernel) (by decide)) (ed_fld (ed_var 0 (hX.nm rfl) (hX.vs (vis_l lk_Late_said_self)) rfl) fa_Late_address rfl)) (ed_str ([32, 97, 115, 32] : List Nat) (by decide +kernel) (by decide))) (ed_fld (ed_var 0 (hX.nm rfl) (hX.vs (vis_l lk_Late_said_self)) rfl) fa_Late_name rfl)) rfl))))
abbrev sp_Late_said (K : PySem.W.Frag) : Sp := spG K (A := ((List Nat) × (List Nat))) (fun a => [.d (D.ins "Late" [("address", (D.str a.1)), ("name", (D.str a.2))])]) (fun _ => True) (fun a => rsOf (fun z : (List Nat) => Res.v (D.str z)) (saidLate a))
theorem ok_Late_said {P : Program} {w : World} {K : PySem.W.Frag} {mg : Str → Option Value} {base : Heap} {f : Addr} {fd : FuncData} (F : Fun K "said" "Late.said" s_Late_said f fd) (fa_Late_address : FldA K "Late" "address") (fa_Late_name : FldA K "Late" "name") : FnOk P w K mg base (L2.CX P w) 1 f fd ["self"] (sp_Late_said K) :=
  def_okC (A := ((List Nat) × (List Nat))) F sc_Late_said .stk (.inl rfl) (fun _ => rfl) (fun a => c_Late_said a) (fun a X E e1 e2 e3 e4 e5 hX hM => by
    subst e1 e2 e3 e4 e5
    exact bd_Late_said X E hX hM fa_Late_address fa_Late_name a)
abbrev s_Take_said : Stmt := clsAt (top 29) 3
abbrev nm_Take_said : List Str := ["self"]
theorem sc_Take_said : FnScope nm_Take_said ["self"] (defScope s_Take_said) := ⟨rfl, rfl, rfl, by decide +kernel, rfl, by decide +kernel, by decide +kernel⟩
theorem lk_Take_said_self : (defScope s_Take_said).names.lookup ("self" : Str) = some .local := by decide +kernel
noncomputable def c_Take_said (a0 : ((List Nat) × (List Nat) × (List Nat))) : Co Unit Empty (List Nat) := chk ((([116, 97, 107, 101, 32] : List Nat).length + a0.1.length ≤ LMax) ∧ ((([116, 97, 107, 101, 32] : List Nat) ++ a0.1).length + ([32, 102, 114, 111, 109, 32] : List Nat).length ≤ LMax) ∧ (((([116, 97, 107, 101, 32] : List Nat) ++ a0.1) ++ ([32, 102, 114, 111, 109, 32] : List Nat)).length + a0.2.1.length ≤ LMax) ∧ ((((([116, 97, 107, 101, 32] : List Nat) ++ a0.1) ++ ([32, 102, 114, 111, 109, 32] : List Nat)) ++ a0.2.1).length + ([32, 97, 115, 32] : List Nat).length ≤ LMax) ∧ (((((([116, 97, 107, 101, 32] : List Nat) ++ a0.1) ++ ([32, 102, 114, 111, 109, 32] : List Nat)) ++ a0.2.1) ++ ([32, 97, 115, 32] : List Nat)).length + a0.2.2.length ≤ LMax)) (.ret (.ok (((((([116, 97, 107, 101, 32] : List Nat) ++ a0.1) ++ ([32, 102, 114, 111, 109, 32] : List Nat)) ++ a0.2.1) ++ ([32, 97, 115, 32] : List Nat)) ++ a0.2.2)))
noncomputable def saidTake (a0 : ((List Nat) × (List Nat) × (List Nat))) : Out (List Nat) := (c_Take_said a0).out .stk
theorem bd_Take_said (X : Cx) (E : XK) (hX : XOk 0 nm_Take_said (defScope s_Take_said) X) (hM : XCm X E) (fa_Take_address : FldA X.K "Take" "address") (fa_Take_name : FldA X.K "Take" "name") (fa_Take_word : FldA X.K "Take" "word") (a0 : ((List Nat) × (List Nat) × (List Nat))) : BC X E ([.d (D.ins "Take" [("word", (D.str a0.1)), ("address", (D.str a0.2.1)), ("name", (D.str a0.2.2))])] : List B) (defBody s_Take_said) (fun s : Unit => List.replicate 1 B.un) (fun s : Empty => nomatch s) (fun z : (List Nat) => Res.v (D.str z)) (c_Take_said a0) := by
  unfold c_Take_said
  exact (c_chk (fun h6 => (have ⟨c1, c2, c3, c4, c5⟩ := h6; (c_ret (ed_op (od_addS _ _ c5) (ed_op (od_addS _ _ c4) (ed_op (od_addS _ _ c3) (ed_op (od_addS _ _ c2) (ed_op (od_addS _ _ c1) (ed_str ([116, 97, 107, 101, 32] : List Nat) (by decide +kernel) (by decide)) (ed_fld (ed_var 0 (hX.nm rfl) (hX.vs (vis_l lk_Take_said_self)) rfl) fa_Take_word rfl)) (ed_str ([32, 102, 114, 111, 109, 32] : List Nat) (by decide +kernel) (by decide))) (ed_fld (ed_var 0 (hX.nm rfl) (hX.vs (vis_l lk_Take_said_self)) rfl) fa_Take_address rfl)) (ed_str ([32, 97, 115, 32] : List Nat) (by decide +kernel) (by decide))) (ed_fld (ed_var 0 (hX.nm rfl) (hX.vs (vis_l lk_Take_said_self)) rfl) fa_Take_name rfl)) rfl))))
abbrev sp_Take_said (K : PySem.W.Frag) : Sp := spG K (A := ((List Nat) × (List Nat) × (List Nat))) (fun a => [.d (D.ins "Take" [("word", (D.str a.1)), ("address", (D.str a.2.1)), ("name", (D.str a.2.2))])]) (fun _ => True) (fun a => rsOf (fun z : (List Nat) => Res.v (D.str z)) (saidTake a))
theorem ok_Take_said {P : Program} {w : World} {K : PySem.W.Frag} {mg : Str → Option Value} {base : Heap} {f : Addr} {fd : FuncData} (F : Fun K "said" "Take.said" s_Take_said f fd) (fa_Take_address : FldA K "Take" "address") (fa_Take_name : FldA K "Take" "name") (fa_Take_word : FldA K "Take" "word") : FnOk P w K mg base (L2.CX P w) 1 f fd ["self"] (sp_Take_said K) :=
  def_okC (A := ((List Nat) × (List Nat) × (List Nat))) F sc_Take_said .stk (.inl rfl) (fun _ => rfl) (fun a => c_Take_said a) (fun a X E e1 e2 e3 e4 e5 hX hM => by
    subst e1 e2 e3 e4 e5
    exact bd_Take_said X E hX hM fa_Take_address fa_Take_name fa_Take_word a)
abbrev s_Need_said : Stmt := clsAt (top 30) 1
abbrev nm_Need_said : List Str := ["self"]
theorem sc_Need_said : FnScope nm_Need_said ["self"] (defScope s_Need_said) := ⟨rfl, rfl, rfl, by decide +kernel, rfl, by decide +kernel, by decide +kernel⟩
theorem lk_Need_said_self : (defScope s_Need_said).names.lookup ("self" : Str) = some .local := by decide +kernel
theorem lk_Need_said_show_expr : (defScope s_Need_said).names.lookup ("show_expr" : Str) = some .globalImplicit := by decide +kernel
noncomputable def c_Need_said (a0 : ((List (Int × (List Nat) × Thing)))) : Co Unit Empty (List Nat) := chk ((((showF a0)).IsOk) ∧ (([110, 101, 101, 100, 32] : List Nat).length + ((showF a0).get []).length ≤ LMax)) (.ret (.ok (([110, 101, 101, 100, 32] : List Nat) ++ ((showF a0).get []))))
noncomputable def saidNeed (a0 : ((List (Int × (List Nat) × Thing)))) : Out (List Nat) := (c_Need_said a0).out .stk
theorem bd_Need_said (X : Cx) (E : XK) (hX : XOk 2 nm_Need_said (defScope s_Need_said) X) (hM : XCm X E) (kn_show_expr : KnX X "show_expr" 2 (sp_show_expr X.K)) (fa_Need_terms : FldA X.K "Need" "terms") (a0 : ((List (Int × (List Nat) × Thing)))) : BC X E ([.d (D.ins "Need" [("terms", (D.lst (List.map (fun z : (Int × (List Nat) × Thing) => (D.tup [(D.int z.1), (D.str z.2.1), (encThing z.2.2)])) a0)))])] : List B) (defBody s_Need_said) (fun s : Unit => List.replicate 1 B.un) (fun s : Empty => nomatch s) (fun z : (List Nat) => Res.v (D.str z)) (c_Need_said a0) := by
  unfold c_Need_said
  exact (c_chk (fun h3 => (have ⟨c1, c2⟩ := h3; (c_ret (ed_op (od_addS _ _ c2) (ed_str ([110, 101, 101, 100, 32] : List Nat) (by decide +kernel) (by decide)) (ed_okS (z := D.str) [] (fun E tk => (es_call (E := E) a0 tk kn_show_expr (hM.room hX (by decide)) (hX.gl lk_Need_said_show_expr) (ea2_d (ed_fld (ed_var 0 (hX.nm rfl) (hX.vs (vis_l lk_Need_said_self)) rfl) fa_Need_terms rfl) ea2_nil) trivial)) (fun _ => rfl) c1)) rfl))))
abbrev sp_Need_said (K : PySem.W.Frag) : Sp := spG K (A := ((List (Int × (List Nat) × Thing)))) (fun a => [.d (D.ins "Need" [("terms", (D.lst (List.map (fun z : (Int × (List Nat) × Thing) => (D.tup [(D.int z.1), (D.str z.2.1), (encThing z.2.2)])) a)))])]) (fun _ => True) (fun a => rsOf (fun z : (List Nat) => Res.v (D.str z)) (saidNeed a))
theorem ok_Need_said {P : Program} {w : World} {K : PySem.W.Frag} {mg : Str → Option Value} {base : Heap} {f : Addr} {fd : FuncData} (F : Fun K "said" "Need.said" s_Need_said f fd) (kn_show_expr : Kn P w K mg base "show_expr" 2 (sp_show_expr K)) (fa_Need_terms : FldA K "Need" "terms") : FnOk P w K mg base (L2.CX P w) 3 f fd ["self"] (sp_Need_said K) :=
  def_okC (A := ((List (Int × (List Nat) × Thing)))) F sc_Need_said .stk (.inl rfl) (fun _ => rfl) (fun a => c_Need_said a) (fun a X E e1 e2 e3 e4 e5 hX hM => by
    subst e1 e2 e3 e4 e5
    exact bd_Need_said X E hX hM kn_show_expr fa_Need_terms a)
noncomputable def RowT.M_said : RowT → Out (List Nat)
  | .Let x0 x1 => saidLet (x0, x1)
  | .Deed x0 x1 => saidDeed (x0, x1)
  | .Draw x0 x1 => saidDraw (x0, x1)
  | .Late x0 x1 => saidLate (x0, x1)
  | .Take x0 x1 x2 => saidTake (x0, x1, x2)
  | .Need x0 => saidNeed (x0)
theorem RowT.meth_said {X : Cx} {E : L2.St → XK} {Γ : List B} {o : Expr} {pos apos : Pos} {pl : Sem Bool} (k_Let_said : MethX X "Let" "said" 3 (sp_Let_said X.K)) (k_Deed_said : MethX X "Deed" "said" 3 (sp_Deed_said X.K)) (k_Draw_said : MethX X "Draw" "said" 1 (sp_Draw_said X.K)) (k_Late_said : MethX X "Late" "said" 1 (sp_Late_said X.K)) (k_Take_said : MethX X "Take" "said" 1 (sp_Take_said X.K)) (k_Need_said : MethX X "Need" "said" 3 (sp_Need_said X.K)) (tk : PsAt X E) (hr : Room 3 X.A) (r : RowT) (he : ED X Γ o (encRow r)) (ht : eval (.Call (.Attribute o "said" apos) [] [] pos) X.env = (do
      let ov ← eval o X.env
      standAt apos.atName
      let (f, first) ← holding [ov] (getMethod ov "said" pl)
      callWith pos f first (backTo pos (starEach [] X.env)) (backToKw pos (keywordEach [] X.env))) := by rfl) : ERs X E Γ (.Call (.Attribute o "said" apos) [] [] pos) (rsOf (fun z : (List Nat) => Res.v (D.str z)) (RowT.M_said r)) := by
  cases r with
  | Let x0 x1 => exact es_meth0 (x0, x1) tk k_Let_said (hr.mono (by decide)) he rfl trivial rfl ht
  | Deed x0 x1 => exact es_meth0 (x0, x1) tk k_Deed_said (hr.mono (by decide)) he rfl trivial rfl ht
  | Draw x0 x1 => exact es_meth0 (x0, x1) tk k_Draw_said (hr.mono (by decide)) he rfl trivial rfl ht
  | Late x0 x1 => exact es_meth0 (x0, x1) tk k_Late_said (hr.mono (by decide)) he rfl trivial rfl ht
  | Take x0 x1 x2 => exact es_meth0 (x0, x1, x2) tk k_Take_said (hr.mono (by decide)) he rfl trivial rfl ht
  | Need x0 => exact es_meth0 (x0) tk k_Need_said (hr.mono (by decide)) he rfl trivial rfl ht
abbrev s_held_row : Stmt := top 32
abbrev nm_held_row : List Str := ["words"]
theorem sc_held_row : FnScope nm_held_row ["words"] (defScope s_held_row) := ⟨rfl, rfl, rfl, by decide +kernel, rfl, by decide +kernel, by decide +kernel⟩
theorem lk_held_row_Draw : (defScope s_held_row).names.lookup ("Draw" : Str) = some .globalImplicit := by decide +kernel
theorem lk_held_row_Late : (defScope s_held_row).names.lookup ("Late" : Str) = some .globalImplicit := by decide +kernel
theorem lk_held_row_is_address : (defScope s_held_row).names.lookup ("is_address" : Str) = some .globalImplicit := by decide +kernel
theorem lk_held_row_is_name : (defScope s_held_row).names.lookup ("is_name" : Str) = some .globalImplicit := by decide +kernel
theorem lk_held_row_len : (defScope s_held_row).names.lookup ("len" : Str) = some .globalImplicit := by decide +kernel
theorem lk_held_row_words : (defScope s_held_row).names.lookup ("words" : Str) = some .local := by decide +kernel
noncomputable def c_held_row (a0 : (List (List Nat))) : Co Unit Empty (Option RowT) := chk (((!(decide ((a0.length : Int) = (4 : Int)))) = false → (-((a0).length : Int) ≤ (2 : Int) ∧ (2 : Int) < ((a0).length : Int)) ∧ ((!(decide ((ix a0 (2 : Int) []) = ([97, 115] : List Nat)))) = false → (-((a0).length : Int) ≤ (1 : Int) ∧ (1 : Int) < ((a0).length : Int)) ∧ (((isAddressF (ix a0 (1 : Int) []))).IsOk) ∧ ((!((isAddressF (ix a0 (1 : Int) [])).get false)) = false → (-((a0).length : Int) ≤ (3 : Int) ∧ (3 : Int) < ((a0).length : Int)) ∧ (((isNameF (ix a0 (3 : Int) []))).IsOk))))) (if ((!(decide ((a0.length : Int) = (4 : Int)))) || ((!(decide ((ix a0 (2 : Int) []) = ([97, 115] : List Nat)))) || ((!((isAddressF (ix a0 (1 : Int) [])).get false)) || (!((isNameF (ix a0 (3 : Int) [])).get false))))) = true then Co.up (.ret (.ok none)) else chk ((-((a0).length : Int) ≤ (0 : Int) ∧ (0 : Int) < ((a0).length : Int))) (if (decide ((ix a0 (0 : Int) []) = ([100, 114, 97, 119] : List Nat))) = true then Co.up (chk ((-((a0).length : Int) ≤ (1 : Int) ∧ (1 : Int) < ((a0).length : Int)) ∧ (-((a0).length : Int) ≤ (3 : Int) ∧ (3 : Int) < ((a0).length : Int))) (.ret (.ok (some (RowT.Draw (mkDraw (ix a0 (1 : Int) []) (ix a0 (3 : Int) [])).1 (mkDraw (ix a0 (1 : Int) []) (ix a0 (3 : Int) [])).2))))) else chk ((-((a0).length : Int) ≤ (1 : Int) ∧ (1 : Int) < ((a0).length : Int)) ∧ (-((a0).length : Int) ≤ (3 : Int) ∧ (3 : Int) < ((a0).length : Int))) (.ret (.ok (some (RowT.Late (mkLate (ix a0 (1 : Int) []) (ix a0 (3 : Int) [])).1 (mkLate (ix a0 (1 : Int) []) (ix a0 (3 : Int) [])).2))))))
noncomputable def heldF (a0 : (List (List Nat))) : Out (Option RowT) := (c_held_row a0).out .stk
theorem bd_held_row (X : Cx) (E : XK) (hX : XOk 3 nm_held_row (defScope s_held_row) X) (hM : XCm X E) (m_len : X.mg "len" = none) (kn_Draw_init : MkX X "Draw" 1 (sp_Draw_init X.K)) (kn_Late_init : MkX X "Late" 1 (sp_Late_init X.K)) (kn_is_address : KnX X "is_address" 3 (sp_is_address X.K)) (kn_is_name : KnX X "is_name" 1 (sp_is_name X.K)) (a0 : (List (List Nat))) : BC X E ([.d (D.lst (List.map D.str a0))] : List B) (defBody s_held_row) (fun s : Unit => List.replicate 1 B.un) (fun s : Empty => nomatch s) (fun z : (Option RowT) => Res.v (encO encRow z)) (c_held_row a0) := by
  unfold c_held_row
  exact (c_chk (fun h22 => (have c11 := h22; (c_ifr (et_w (ew_or (et_cmp (od_neI _ _) (ed_lenM (hX.gl lk_held_row_len) m_len (EvD.el (ed_var 0 (hX.nm rfl) (hX.vs (vis_l lk_held_row_words)) rfl))) ed_int) (fun h10 => (have ⟨c1, c9⟩ := (c11 h10); (ew_or (et_cmp (od_neS _ _) (ed_ixL (EvD.el (ed_var 0 (hX.nm rfl) (hX.vs (vis_l lk_held_row_words)) rfl)) ed_int (atI_map (f := D.str) (xs := a0) (ix_ok (d := []) c1))) (ed_str ([97, 115] : List Nat) (by decide +kernel) (by decide))) (fun h8 => (have ⟨c2, c3, c7⟩ := (c9 h8); (ew_or (et_not (et_val (ed_okS (z := D.bl) false (fun E tk => (es_call (E := E) (ix a0 (1 : Int) []) tk kn_is_address (hM.room hX (by decide)) (hX.gl lk_held_row_is_address) (ea2_d (ed_ixL (EvD.el (ed_var 0 (hX.nm rfl) (hX.vs (vis_l lk_held_row_words)) rfl)) ed_int (atI_map (f := D.str) (xs := a0) (ix_ok (d := []) c2))) ea2_nil) trivial)) (fun _ => rfl) c3))) (fun h6 => (have ⟨c4, c5⟩ := (c7 h6); (ew_or1 (et_not (et_val (ed_okS (z := D.bl) false (fun E tk => (es_call (E := E) (ix a0 (3 : Int) []) tk kn_is_name (hM.room hX (by decide)) (hX.gl lk_held_row_is_name) (ea2_d (ed_ixL (EvD.el (ed_var 0 (hX.nm rfl) (hX.vs (vis_l lk_held_row_words)) rfl)) ed_int (atI_map (f := D.str) (xs := a0) (ix_ok (d := []) c4))) ea2_nil) trivial)) (fun _ => rfl) c5)))))))))))))) (fun h12 => (c_ret ed_non rfl)) (fun h12 => (c_chk (fun h21 => (have c13 := h21; (c_ifr (et_cmp (od_eqS _ _) (ed_ixL (EvD.el (ed_var 0 (hX.nm rfl) (hX.vs (vis_l lk_held_row_words)) rfl)) ed_int (atI_map (f := D.str) (xs := a0) (ix_ok (d := []) c13))) (ed_str ([100, 114, 97, 119] : List Nat) (by decide +kernel) (by decide))) (fun h14 => (c_chk (fun h17 => (have ⟨c15, c16⟩ := h17; (c_ret (ed_makeJ (lv := 1) (((ix a0 (1 : Int) []), (ix a0 (3 : Int) [])) : (List Nat) × (List Nat)) kn_Draw_init (hM.room hX (by decide)) (hX.gl lk_held_row_Draw) (ea2_d (ed_ixL (EvD.el (ed_var 0 (hX.nm rfl) (hX.vs (vis_l lk_held_row_words)) rfl)) ed_int (atI_map (f := D.str) (xs := a0) (ix_ok (d := []) c15))) (ea2_d (ed_ixL (EvD.el (ed_var 0 (hX.nm rfl) (hX.vs (vis_l lk_held_row_words)) rfl)) ed_int (atI_map (f := D.str) (xs := a0) (ix_ok (d := []) c16))) ea2_nil)) trivial) rfl))))) (fun h14 => (c_chk (fun h20 => (have ⟨c18, c19⟩ := h20; (c_ret (ed_makeJ (lv := 1) (((ix a0 (1 : Int) []), (ix a0 (3 : Int) [])) : (List Nat) × (List Nat)) kn_Late_init (hM.room hX (by decide)) (hX.gl lk_held_row_Late) (ea2_d (ed_ixL (EvD.el (ed_var 0 (hX.nm rfl) (hX.vs (vis_l lk_held_row_words)) rfl)) ed_int (atI_map (f := D.str) (xs := a0) (ix_ok (d := []) c18))) (ea2_d (ed_ixL (EvD.el (ed_var 0 (hX.nm rfl) (hX.vs (vis_l lk_held_row_words)) rfl)) ed_int (atI_map (f := D.str) (xs := a0) (ix_ok (d := []) c19))) ea2_nil)) trivial) rfl))))))))))))))
abbrev sp_held_row (K : PySem.W.Frag) : Sp := spG K (A := (List (List Nat))) (fun a => [.d (D.lst (List.map D.str a))]) (fun _ => True) (fun a => rsOf (fun z : (Option RowT) => Res.v (encO encRow z)) (heldF a))
theorem ok_held_row {P : Program} {w : World} {K : PySem.W.Frag} {mg : Str → Option Value} {base : Heap} {f : Addr} {fd : FuncData} (F : Fun K "held_row" "held_row" s_held_row f fd) (m_len : mg "len" = none) (kn_Draw_init : Mkr P w K mg base "Draw" 1 (sp_Draw_init K)) (kn_Late_init : Mkr P w K mg base "Late" 1 (sp_Late_init K)) (kn_is_address : Kn P w K mg base "is_address" 3 (sp_is_address K)) (kn_is_name : Kn P w K mg base "is_name" 1 (sp_is_name K)) : FnOk P w K mg base (L2.CX P w) 4 f fd ["words"] (sp_held_row K) :=
  def_okC (A := (List (List Nat))) F sc_held_row .stk (.inl rfl) (fun _ => rfl) (fun a => c_held_row a) (fun a X E e1 e2 e3 e4 e5 hX hM => by
    subst e1 e2 e3 e4 e5
    exact bd_held_row X E hX hM m_len kn_Draw_init kn_Late_init kn_is_address kn_is_name a)
abbrev s_take_row : Stmt := top 33
abbrev nm_take_row : List Str := ["words"]
theorem sc_take_row : FnScope nm_take_row ["words"] (defScope s_take_row) := ⟨rfl, rfl, rfl, by decide +kernel, rfl, by decide +kernel, by decide +kernel⟩
theorem lk_take_row_Take : (defScope s_take_row).names.lookup ("Take" : Str) = some .globalImplicit := by decide +kernel
theorem lk_take_row_is_address : (defScope s_take_row).names.lookup ("is_address" : Str) = some .globalImplicit := by decide +kernel
theorem lk_take_row_is_name : (defScope s_take_row).names.lookup ("is_name" : Str) = some .globalImplicit := by decide +kernel
theorem lk_take_row_len : (defScope s_take_row).names.lookup ("len" : Str) = some .globalImplicit := by decide +kernel
theorem lk_take_row_words : (defScope s_take_row).names.lookup ("words" : Str) = some .local := by decide +kernel
noncomputable def c_take_row (a0 : (List (List Nat))) : Co Unit Empty (Option RowT) := chk (((!(decide ((a0.length : Int) = (6 : Int)))) = false → (-((a0).length : Int) ≤ (2 : Int) ∧ (2 : Int) < ((a0).length : Int)) ∧ ((!(decide ((ix a0 (2 : Int) []) = ([102, 114, 111, 109] : List Nat)))) = false → (-((a0).length : Int) ≤ (4 : Int) ∧ (4 : Int) < ((a0).length : Int))))) (if ((!(decide ((a0.length : Int) = (6 : Int)))) || ((!(decide ((ix a0 (2 : Int) []) = ([102, 114, 111, 109] : List Nat)))) || (!(decide ((ix a0 (4 : Int) []) = ([97, 115] : List Nat)))))) = true then Co.up (.ret (.ok none)) else chk ((-((a0).length : Int) ≤ (1 : Int) ∧ (1 : Int) < ((a0).length : Int)) ∧ (((isNameF (ix a0 (1 : Int) []))).IsOk) ∧ ((!((isNameF (ix a0 (1 : Int) [])).get false)) = false → (-((a0).length : Int) ≤ (3 : Int) ∧ (3 : Int) < ((a0).length : Int)) ∧ (((isAddressF (ix a0 (3 : Int) []))).IsOk) ∧ ((!((isAddressF (ix a0 (3 : Int) [])).get false)) = false → (-((a0).length : Int) ≤ (5 : Int) ∧ (5 : Int) < ((a0).length : Int)) ∧ (((isNameF (ix a0 (5 : Int) []))).IsOk)))) (if ((!((isNameF (ix a0 (1 : Int) [])).get false)) || ((!((isAddressF (ix a0 (3 : Int) [])).get false)) || (!((isNameF (ix a0 (5 : Int) [])).get false)))) = true then Co.up (.ret (.ok none)) else chk ((-((a0).length : Int) ≤ (1 : Int) ∧ (1 : Int) < ((a0).length : Int)) ∧ (-((a0).length : Int) ≤ (3 : Int) ∧ (3 : Int) < ((a0).length : Int)) ∧ (-((a0).length : Int) ≤ (5 : Int) ∧ (5 : Int) < ((a0).length : Int))) (.ret (.ok (some (RowT.Take (mkTake (ix a0 (1 : Int) []) (ix a0 (3 : Int) []) (ix a0 (5 : Int) [])).1 (mkTake (ix a0 (1 : Int) []) (ix a0 (3 : Int) []) (ix a0 (5 : Int) [])).2.1 (mkTake (ix a0 (1 : Int) []) (ix a0 (3 : Int) []) (ix a0 (5 : Int) [])).2.2))))))
noncomputable def takeF (a0 : (List (List Nat))) : Out (Option RowT) := (c_take_row a0).out .stk
theorem bd_take_row (X : Cx) (E : XK) (hX : XOk 3 nm_take_row (defScope s_take_row) X) (hM : XCm X E) (m_len : X.mg "len" = none) (kn_Take_init : MkX X "Take" 1 (sp_Take_init X.K)) (kn_is_address : KnX X "is_address" 3 (sp_is_address X.K)) (kn_is_name : KnX X "is_name" 1 (sp_is_name X.K)) (a0 : (List (List Nat))) : BC X E ([.d (D.lst (List.map D.str a0))] : List B) (defBody s_take_row) (fun s : Unit => List.replicate 1 B.un) (fun s : Empty => nomatch s) (fun z : (Option RowT) => Res.v (encO encRow z)) (c_take_row a0) := by
  unfold c_take_row
  exact (c_chk (fun h24 => (have c6 := h24; (c_ifr (et_w (ew_or (et_cmp (od_neI _ _) (ed_lenM (hX.gl lk_take_row_len) m_len (EvD.el (ed_var 0 (hX.nm rfl) (hX.vs (vis_l lk_take_row_words)) rfl))) ed_int) (fun h5 => (have ⟨c1, c4⟩ := (c6 h5); (ew_or (et_cmp (od_neS _ _) (ed_ixL (EvD.el (ed_var 0 (hX.nm rfl) (hX.vs (vis_l lk_take_row_words)) rfl)) ed_int (atI_map (f := D.str) (xs := a0) (ix_ok (d := []) c1))) (ed_str ([102, 114, 111, 109] : List Nat) (by decide +kernel) (by decide))) (fun h3 => (have c2 := (c4 h3); (ew_or1 (et_cmp (od_neS _ _) (ed_ixL (EvD.el (ed_var 0 (hX.nm rfl) (hX.vs (vis_l lk_take_row_words)) rfl)) ed_int (atI_map (f := D.str) (xs := a0) (ix_ok (d := []) c2))) (ed_str ([97, 115] : List Nat) (by decide +kernel) (by decide))))))))))) (fun h7 => (c_ret ed_non rfl)) (fun h7 => (c_chk (fun h23 => (have ⟨c8, c9, c17⟩ := h23; (c_ifr (et_w (ew_or (et_not (et_val (ed_okS (z := D.bl) false (fun E tk => (es_call (E := E) (ix a0 (1 : Int) []) tk kn_is_name (hM.room hX (by decide)) (hX.gl lk_take_row_is_name) (ea2_d (ed_ixL (EvD.el (ed_var 0 (hX.nm rfl) (hX.vs (vis_l lk_take_row_words)) rfl)) ed_int (atI_map (f := D.str) (xs := a0) (ix_ok (d := []) c8))) ea2_nil) trivial)) (fun _ => rfl) c9))) (fun h16 => (have ⟨c10, c11, c15⟩ := (c17 h16); (ew_or (et_not (et_val (ed_okS (z := D.bl) false (fun E tk => (es_call (E := E) (ix a0 (3 : Int) []) tk kn_is_address (hM.room hX (by decide)) (hX.gl lk_take_row_is_address) (ea2_d (ed_ixL (EvD.el (ed_var 0 (hX.nm rfl) (hX.vs (vis_l lk_take_row_words)) rfl)) ed_int (atI_map (f := D.str) (xs := a0) (ix_ok (d := []) c10))) ea2_nil) trivial)) (fun _ => rfl) c11))) (fun h14 => (have ⟨c12, c13⟩ := (c15 h14); (ew_or1 (et_not (et_val (ed_okS (z := D.bl) false (fun E tk => (es_call (E := E) (ix a0 (5 : Int) []) tk kn_is_name (hM.room hX (by decide)) (hX.gl lk_take_row_is_name) (ea2_d (ed_ixL (EvD.el (ed_var 0 (hX.nm rfl) (hX.vs (vis_l lk_take_row_words)) rfl)) ed_int (atI_map (f := D.str) (xs := a0) (ix_ok (d := []) c12))) ea2_nil) trivial)) (fun _ => rfl) c13))))))))))) (fun h18 => (c_ret ed_non rfl)) (fun h18 => (c_chk (fun h22 => (have ⟨c19, c20, c21⟩ := h22; (c_ret (ed_makeJ (lv := 1) (((ix a0 (1 : Int) []), (ix a0 (3 : Int) []), (ix a0 (5 : Int) [])) : (List Nat) × (List Nat) × (List Nat)) kn_Take_init (hM.room hX (by decide)) (hX.gl lk_take_row_Take) (ea2_d (ed_ixL (EvD.el (ed_var 0 (hX.nm rfl) (hX.vs (vis_l lk_take_row_words)) rfl)) ed_int (atI_map (f := D.str) (xs := a0) (ix_ok (d := []) c19))) (ea2_d (ed_ixL (EvD.el (ed_var 0 (hX.nm rfl) (hX.vs (vis_l lk_take_row_words)) rfl)) ed_int (atI_map (f := D.str) (xs := a0) (ix_ok (d := []) c20))) (ea2_d (ed_ixL (EvD.el (ed_var 0 (hX.nm rfl) (hX.vs (vis_l lk_take_row_words)) rfl)) ed_int (atI_map (f := D.str) (xs := a0) (ix_ok (d := []) c21))) ea2_nil))) trivial) rfl))))))))))))))
abbrev sp_take_row (K : PySem.W.Frag) : Sp := spG K (A := (List (List Nat))) (fun a => [.d (D.lst (List.map D.str a))]) (fun _ => True) (fun a => rsOf (fun z : (Option RowT) => Res.v (encO encRow z)) (takeF a))
theorem ok_take_row {P : Program} {w : World} {K : PySem.W.Frag} {mg : Str → Option Value} {base : Heap} {f : Addr} {fd : FuncData} (F : Fun K "take_row" "take_row" s_take_row f fd) (m_len : mg "len" = none) (kn_Take_init : Mkr P w K mg base "Take" 1 (sp_Take_init K)) (kn_is_address : Kn P w K mg base "is_address" 3 (sp_is_address K)) (kn_is_name : Kn P w K mg base "is_name" 1 (sp_is_name K)) : FnOk P w K mg base (L2.CX P w) 4 f fd ["words"] (sp_take_row K) :=
  def_okC (A := (List (List Nat))) F sc_take_row .stk (.inl rfl) (fun _ => rfl) (fun a => c_take_row a) (fun a X E e1 e2 e3 e4 e5 hX hM => by
    subst e1 e2 e3 e4 e5
    exact bd_take_row X E hX hM m_len kn_Take_init kn_is_address kn_is_name a)
abbrev s_told_row : Stmt := top 34
abbrev nm_told_row : List Str := ["words", "terms"]
theorem sc_told_row : FnScope nm_told_row ["words"] (defScope s_told_row) := ⟨rfl, rfl, rfl, by decide +kernel, rfl, by decide +kernel, by decide +kernel⟩
theorem lk_told_row_Deed : (defScope s_told_row).names.lookup ("Deed" : Str) = some .globalImplicit := by decide +kernel
theorem lk_told_row_Let : (defScope s_told_row).names.lookup ("Let" : Str) = some .globalImplicit := by decide +kernel
theorem lk_told_row_has_call : (defScope s_told_row).names.lookup ("has_call" : Str) = some .globalImplicit := by decide +kernel
theorem lk_told_row_is_name : (defScope s_told_row).names.lookup ("is_name" : Str) = some .globalImplicit := by decide +kernel
theorem lk_told_row_len : (defScope s_told_row).names.lookup ("len" : Str) = some .globalImplicit := by decide +kernel
theorem lk_told_row_read_expr : (defScope s_told_row).names.lookup ("read_expr" : Str) = some .globalImplicit := by decide +kernel
theorem lk_told_row_terms : (defScope s_told_row).names.lookup ("terms" : Str) = some .local := by decide +kernel
theorem lk_told_row_words : (defScope s_told_row).names.lookup ("words" : Str) = some .local := by decide +kernel
noncomputable def c_told_row (a0 : (List (List Nat))) : Co Unit Empty (Option RowT) := chk (((decide ((a0.length : Int) < (4 : Int))) = false → (-((a0).length : Int) ≤ (2 : Int) ∧ (2 : Int) < ((a0).length : Int)) ∧ ((!(decide ((ix a0 (2 : Int) []) = ([98, 101] : List Nat)))) = false → (-((a0).length : Int) ≤ (1 : Int) ∧ (1 : Int) < ((a0).length : Int)) ∧ (((isNameF (ix a0 (1 : Int) []))).IsOk)))) (if ((decide ((a0.length : Int) < (4 : Int))) || ((!(decide ((ix a0 (2 : Int) []) = ([98, 101] : List Nat)))) || (!((isNameF (ix a0 (1 : Int) [])).get false)))) = true then Co.up (.ret (.ok none)) else chk (((List.map (·.length) (cutL a0 (some (3 : Int)) none)).sum + (cutL a0 (some (3 : Int)) none).length * ([32] : List Nat).length ≤ LMax)) (bndO ((readF (joinS ([32] : List Nat) (cutL a0 (some (3 : Int)) none))) : Out (List (Int × (List Nat) × Thing))) fun v9 => chk ((-((a0).length : Int) ≤ (0 : Int) ∧ (0 : Int) < ((a0).length : Int))) (if (decide ((ix a0 (0 : Int) []) = ([108, 101, 116] : List Nat))) = true then Co.up (chk ((-((a0).length : Int) ≤ (1 : Int) ∧ (1 : Int) < ((a0).length : Int))) (.ret (.ok (some (RowT.Let (mkLet (ix a0 (1 : Int) []) v9).1 (mkLet (ix a0 (1 : Int) []) v9).2))))) else chk ((((hasCallF v9)).IsOk)) (if ((hasCallF v9).get false) = true then Co.up (.ret (.ok none)) else chk ((-((a0).length : Int) ≤ (1 : Int) ∧ (1 : Int) < ((a0).length : Int))) (.ret (.ok (some (RowT.Deed (mkDeed (ix a0 (1 : Int) []) v9).1 (mkDeed (ix a0 (1 : Int) []) v9).2))))))))
noncomputable def toldF (a0 : (List (List Nat))) : Out (Option RowT) := (c_told_row a0).out .stk
theorem bd_told_row (X : Cx) (E : XK) (hX : XOk 4 nm_told_row (defScope s_told_row) X) (hM : XCm X E) (m_len : X.mg "len" = none) (kn_Deed_init : MkX X "Deed" 1 (sp_Deed_init X.K)) (kn_Let_init : MkX X "Let" 1 (sp_Let_init X.K)) (kn_has_call : KnX X "has_call" 1 (sp_has_call X.K)) (kn_is_name : KnX X "is_name" 1 (sp_is_name X.K)) (kn_read_expr : KnX X "read_expr" 4 (sp_read_expr X.K)) (a0 : (List (List Nat))) : BC X E ([.d (D.lst (List.map D.str a0)), .un] : List B) (defBody s_told_row) (fun s : Unit => List.replicate 2 B.un) (fun s : Empty => nomatch s) (fun z : (Option RowT) => Res.v (encO encRow z)) (c_told_row a0) := by
  unfold c_told_row
  exact (c_chk (fun h22 => (have c7 := h22; (c_ifr (et_w (ew_or (et_cmp (od_lt _ _) (ed_lenM (hX.gl lk_told_row_len) m_len (EvD.el (ed_var 0 (hX.nm rfl) (hX.vs (vis_l lk_told_row_words)) rfl))) ed_int) (fun h6 => (have ⟨c1, c5⟩ := (c7 h6); (ew_or (et_cmp (od_neS _ _) (ed_ixL (EvD.el (ed_var 0 (hX.nm rfl) (hX.vs (vis_l lk_told_row_words)) rfl)) ed_int (atI_map (f := D.str) (xs := a0) (ix_ok (d := []) c1))) (ed_str ([98, 101] : List Nat) (by decide +kernel) (by decide))) (fun h4 => (have ⟨c2, c3⟩ := (c5 h4); (ew_or1 (et_not (et_val (ed_okS (z := D.bl) false (fun E tk => (es_call (E := E) (ix a0 (1 : Int) []) tk kn_is_name (hM.room hX (by decide)) (hX.gl lk_told_row_is_name) (ea2_d (ed_ixL (EvD.el (ed_var 0 (hX.nm rfl) (hX.vs (vis_l lk_told_row_words)) rfl)) ed_int (atI_map (f := D.str) (xs := a0) (ix_ok (d := []) c2))) ea2_nil) trivial)) (fun _ => rfl) c3))))))))))) (fun h8 => (c_ret ed_non rfl)) (fun h8 => (c_chk (fun h21 => (have c10 := h21; (c_setRO 1 (fun z : (List (Int × (List Nat) × Thing)) => OO.lst (List.map (fun z : (Int × (List Nat) × Thing) => (D.tup [(D.int z.1), (D.str z.2.1), (encThing z.2.2)])) z)) hX rfl (loc_l lk_told_row_terms) (es_call (E := (fun _ => E)) (joinS ([32] : List Nat) (cutL a0 (some (3 : Int)) none)) hM.pass kn_read_expr (hM.room hX (by decide)) (hX.gl lk_told_row_read_expr) (ea2_d (ed_join (ed_str ([32] : List Nat) (by decide +kernel) (by decide)) (EvO.el (eo_slM (EvD.el (ed_var 0 (hX.nm rfl) (hX.vs (vis_l lk_told_row_words)) rfl)) (ep_some ed_int) ep_none)) c10) ea2_nil) trivial) (fun v9 => (show BC X E ([.d (D.lst (List.map D.str a0)), .own (.lst (List.map (fun z : (Int × (List Nat) × Thing) => (D.tup [(D.int z.1), (D.str z.2.1), (encThing z.2.2)])) v9))] : List B) _ _ _ _ _ from (c_chk (fun h20 => (have c11 := h20; (c_ifr (et_cmp (od_eqS _ _) (ed_ixL (EvD.el (ed_var 0 (hX.nm rfl) (hX.vs (vis_l lk_told_row_words)) rfl)) ed_int (atI_map (f := D.str) (xs := a0) (ix_ok (d := []) c11))) (ed_str ([108, 101, 116] : List Nat) (by decide +kernel) (by decide))) (fun h12 => (c_chk (fun h14 => (have c13 := h14; (c_ret (ed_makeJ (lv := 1) (((ix a0 (1 : Int) []), v9) : (List Nat) × (List (Int × (List Nat) × Thing))) kn_Let_init (hM.room hX (by decide)) (hX.gl lk_told_row_Let) (ea2_d (ed_ixL (EvD.el (ed_var 0 (hX.nm rfl) (hX.vs (vis_l lk_told_row_words)) rfl)) ed_int (atI_map (f := D.str) (xs := a0) (ix_ok (d := []) c13))) (ea2_l (el_own 1 (hX.nm rfl) (hX.vs (vis_l lk_told_row_terms)) rfl) ea2_nil)) trivial) rfl))))) (fun h12 => (c_chk (fun h19 => (have c15 := h19; (c_ifr (et_lend 1 rfl (show ET X ([.d (D.lst (List.map D.str a0)), .d (D.lst (List.map (fun z : (Int × (List Nat) × Thing) => (D.tup [(D.int z.1), (D.str z.2.1), (encThing z.2.2)])) v9))] : List B) _ _ from (et_val (ed_okS (z := D.bl) false (fun E tk => (es_call (E := E) v9 tk kn_has_call (hM.room hX (by decide)) (hX.gl lk_told_row_has_call) (ea2_d (ed_var 1 (hX.nm rfl) (hX.vs (vis_l lk_told_row_terms)) rfl) ea2_nil) trivial)) (fun _ => rfl) c15)))) (fun h16 => (c_ret ed_non rfl)) (fun h16 => (c_chk (fun h18 => (have c17 := h18; (c_ret (ed_makeJ (lv := 1) (((ix a0 (1 : Int) []), v9) : (List Nat) × (List (Int × (List Nat) × Thing))) kn_Deed_init (hM.room hX (by decide)) (hX.gl lk_told_row_Deed) (ea2_d (ed_ixL (EvD.el (ed_var 0 (hX.nm rfl) (hX.vs (vis_l lk_told_row_words)) rfl)) ed_int (atI_map (f := D.str) (xs := a0) (ix_ok (d := []) c17))) (ea2_l (el_own 1 (hX.nm rfl) (hX.vs (vis_l lk_told_row_terms)) rfl) ea2_nil)) trivial) rfl)))))))))))))))))))))))))
abbrev sp_told_row (K : PySem.W.Frag) : Sp := spG K (A := (List (List Nat))) (fun a => [.d (D.lst (List.map D.str a))]) (fun _ => True) (fun a => rsOf (fun z : (Option RowT) => Res.v (encO encRow z)) (toldF a))
theorem ok_told_row {P : Program} {w : World} {K : PySem.W.Frag} {mg : Str → Option Value} {base : Heap} {f : Addr} {fd : FuncData} (F : Fun K "told_row" "told_row" s_told_row f fd) (m_len : mg "len" = none) (kn_Deed_init : Mkr P w K mg base "Deed" 1 (sp_Deed_init K)) (kn_Let_init : Mkr P w K mg base "Let" 1 (sp_Let_init K)) (kn_has_call : Kn P w K mg base "has_call" 1 (sp_has_call K)) (kn_is_name : Kn P w K mg base "is_name" 1 (sp_is_name K)) (kn_read_expr : Kn P w K mg base "read_expr" 4 (sp_read_expr K)) : FnOk P w K mg base (L2.CX P w) 5 f fd ["words"] (sp_told_row K) :=
  def_okC (A := (List (List Nat))) F sc_told_row .stk (.inl rfl) (fun _ => rfl) (fun a => c_told_row a) (fun a X E e1 e2 e3 e4 e5 hX hM => by
    subst e1 e2 e3 e4 e5
    exact bd_told_row X E hX hM m_len kn_Deed_init kn_Let_init kn_has_call kn_is_name kn_read_expr a)
abbrev s_row_of : Stmt := top 35
abbrev nm_row_of : List Str := ["words"]
theorem sc_row_of : FnScope nm_row_of ["words"] (defScope s_row_of) := ⟨rfl, rfl, rfl, by decide +kernel, rfl, by decide +kernel, by decide +kernel⟩
theorem lk_row_of_Need : (defScope s_row_of).names.lookup ("Need" : Str) = some .globalImplicit := by decide +kernel
theorem lk_row_of_held_row : (defScope s_row_of).names.lookup ("held_row" : Str) = some .globalImplicit := by decide +kernel
theorem lk_row_of_read_expr : (defScope s_row_of).names.lookup ("read_expr" : Str) = some .globalImplicit := by decide +kernel
theorem lk_row_of_take_row : (defScope s_row_of).names.lookup ("take_row" : Str) = some .globalImplicit := by decide +kernel
theorem lk_row_of_told_row : (defScope s_row_of).names.lookup ("told_row" : Str) = some .globalImplicit := by decide +kernel
theorem lk_row_of_words : (defScope s_row_of).names.lookup ("words" : Str) = some .local := by decide +kernel
noncomputable def c_row_of (a0 : (List (List Nat))) : Co Unit Empty (Option RowT) := chk ((-((a0).length : Int) ≤ (0 : Int) ∧ (0 : Int) < ((a0).length : Int))) (if (decide ((ix a0 (0 : Int) []) ∈ ([(([100, 114, 97, 119] : List Nat), ([108, 97, 116, 101] : List Nat)).1, (([100, 114, 97, 119] : List Nat), ([108, 97, 116, 101] : List Nat)).2] : List (List Nat)))) = true then Co.up (.ret (heldF a0)) else chk ((-((a0).length : Int) ≤ (0 : Int) ∧ (0 : Int) < ((a0).length : Int))) (if (decide ((ix a0 (0 : Int) []) = ([116, 97, 107, 101] : List Nat))) = true then Co.up (.ret (takeF a0)) else chk ((-((a0).length : Int) ≤ (0 : Int) ∧ (0 : Int) < ((a0).length : Int))) (if (decide ((ix a0 (0 : Int) []) ∈ ([(([108, 101, 116] : List Nat), ([100, 101, 101, 100] : List Nat)).1, (([108, 101, 116] : List Nat), ([100, 101, 101, 100] : List Nat)).2] : List (List Nat)))) = true then Co.up (.ret (toldF a0)) else chk ((-((a0).length : Int) ≤ (0 : Int) ∧ (0 : Int) < ((a0).length : Int))) (if (decide ((ix a0 (0 : Int) []) = ([110, 101, 101, 100] : List Nat))) = true then Co.up (chk (((List.map (·.length) (cutL a0 (some (1 : Int)) none)).sum + (cutL a0 (some (1 : Int)) none).length * ([32] : List Nat).length ≤ LMax)) (.ret (mapO (fun z : ((List (Int × (List Nat) × Thing))) => (some (RowT.Need z))) (mapO mkNeed (readF (joinS ([32] : List Nat) (cutL a0 (some (1 : Int)) none))))))) else .ret (.ok none)))))
noncomputable def rowOfF (a0 : (List (List Nat))) : Out (Option RowT) := (c_row_of a0).out .stk
theorem bd_row_of (X : Cx) (E : XK) (hX : XOk 5 nm_row_of (defScope s_row_of) X) (hM : XCm X E) (kn_Need_init : MkX X "Need" 1 (sp_Need_init X.K)) (kn_held_row : KnX X "held_row" 4 (sp_held_row X.K)) (kn_read_expr : KnX X "read_expr" 4 (sp_read_expr X.K)) (kn_take_row : KnX X "take_row" 4 (sp_take_row X.K)) (kn_told_row : KnX X "told_row" 5 (sp_told_row X.K)) (a0 : (List (List Nat))) : BC X E ([.d (D.lst (List.map D.str a0))] : List B) (defBody s_row_of) (fun s : Unit => List.replicate 1 B.un) (fun s : Empty => nomatch s) (fun z : (Option RowT) => Res.v (encO encRow z)) (c_row_of a0) := by
  unfold c_row_of
  exact (c_chk (fun h14 => (have c1 := h14; (c_ifr (et_cmp (od_inT _ ([(([100, 114, 97, 119] : List Nat), ([108, 97, 116, 101] : List Nat)).1, (([100, 114, 97, 119] : List Nat), ([108, 97, 116, 101] : List Nat)).2] : List (List Nat))) (ed_ixL (EvD.el (ed_var 0 (hX.nm rfl) (hX.vs (vis_l lk_row_of_words)) rfl)) ed_int (atI_map (f := D.str) (xs := a0) (ix_ok (d := []) c1))) (ed_tup (ea_cons (ed_str ([100, 114, 97, 119] : List Nat) (by decide +kernel) (by decide)) (ea_cons (ed_str ([108, 97, 116, 101] : List Nat) (by decide +kernel) (by decide)) ea_nil)) (by show 2 ≤ sizeLine; decide))) (fun h2 => (c_retR (es_call (E := (fun _ => E)) a0 hM.pass kn_held_row (hM.room hX (by decide)) (hX.gl lk_row_of_held_row) (ea2_d (ed_var 0 (hX.nm rfl) (hX.vs (vis_l lk_row_of_words)) rfl) ea2_nil) trivial))) (fun h2 => (c_chk (fun h13 => (have c3 := h13; (c_ifr (et_cmp (od_eqS _ _) (ed_ixL (EvD.el (ed_var 0 (hX.nm rfl) (hX.vs (vis_l lk_row_of_words)) rfl)) ed_int (atI_map (f := D.str) (xs := a0) (ix_ok (d := []) c3))) (ed_str ([116, 97, 107, 101] : List Nat) (by decide +kernel) (by decide))) (fun h4 => (c_retR (es_call (E := (fun _ => E)) a0 hM.pass kn_take_row (hM.room hX (by decide)) (hX.gl lk_row_of_take_row) (ea2_d (ed_var 0 (hX.nm rfl) (hX.vs (vis_l lk_row_of_words)) rfl) ea2_nil) trivial))) (fun h4 => (c_chk (fun h12 => (have c5 := h12; (c_ifr (et_cmp (od_inT _ ([(([108, 101, 116] : List Nat), ([100, 101, 101, 100] : List Nat)).1, (([108, 101, 116] : List Nat), ([100, 101, 101, 100] : List Nat)).2] : List (List Nat))) (ed_ixL (EvD.el (ed_var 0 (hX.nm rfl) (hX.vs (vis_l lk_row_of_words)) rfl)) ed_int (atI_map (f := D.str) (xs := a0) (ix_ok (d := []) c5))) (ed_tup (ea_cons (ed_str ([108, 101, 116] : List Nat) (by decide +kernel) (by decide)) (ea_cons (ed_str ([100, 101, 101, 100] : List Nat) (by decide +kernel) (by decide)) ea_nil)) (by show 2 ≤ sizeLine; decide))) (fun h6 => (c_retR (es_call (E := (fun _ => E)) a0 hM.pass kn_told_row (hM.room hX (by decide)) (hX.gl lk_row_of_told_row) (ea2_d (ed_var 0 (hX.nm rfl) (hX.vs (vis_l lk_row_of_words)) rfl) ea2_nil) trivial))) (fun h6 => (c_chk (fun h11 => (have c7 := h11; (c_ifr (et_cmp (od_eqS _ _) (ed_ixL (EvD.el (ed_var 0 (hX.nm rfl) (hX.vs (vis_l lk_row_of_words)) rfl)) ed_int (atI_map (f := D.str) (xs := a0) (ix_ok (d := []) c7))) (ed_str ([110, 101, 101, 100] : List Nat) (by decide +kernel) (by decide))) (fun h8 => (c_chk (fun h10 => (have c9 := h10; (c_retR (er_map _ (fun _ => rfl) (es_makeM (lv := 1) (fun z => z) kn_Need_init (hM.room hX (by decide)) (hX.gl lk_row_of_Need) (es_call (E := (fun _ => E)) (joinS ([32] : List Nat) (cutL a0 (some (1 : Int)) none)) hM.pass kn_read_expr (hM.room hX (by decide)) (hX.gl lk_row_of_read_expr) (ea2_d (ed_join (ed_str ([32] : List Nat) (by decide +kernel) (by decide)) (EvO.el (eo_slM (EvD.el (ed_var 0 (hX.nm rfl) (hX.vs (vis_l lk_row_of_words)) rfl)) (ep_some ed_int) ep_none)) c9) ea2_nil) trivial) (fun _ => trivial) (fun _ => .inr ⟨_, rfl, rfl⟩)))))))) (fun h8 => (c_ret ed_non rfl)))))))))))))))))))))
abbrev sp_row_of (K : PySem.W.Frag) : Sp := spG K (A := (List (List Nat))) (fun a => [.d (D.lst (List.map D.str a))]) (fun _ => True) (fun a => rsOf (fun z : (Option RowT) => Res.v (encO encRow z)) (rowOfF a))
theorem ok_row_of {P : Program} {w : World} {K : PySem.W.Frag} {mg : Str → Option Value} {base : Heap} {f : Addr} {fd : FuncData} (F : Fun K "row_of" "row_of" s_row_of f fd) (kn_Need_init : Mkr P w K mg base "Need" 1 (sp_Need_init K)) (kn_held_row : Kn P w K mg base "held_row" 4 (sp_held_row K)) (kn_read_expr : Kn P w K mg base "read_expr" 4 (sp_read_expr K)) (kn_take_row : Kn P w K mg base "take_row" 4 (sp_take_row K)) (kn_told_row : Kn P w K mg base "told_row" 5 (sp_told_row K)) : FnOk P w K mg base (L2.CX P w) 6 f fd ["words"] (sp_row_of K) :=
  def_okC (A := (List (List Nat))) F sc_row_of .stk (.inl rfl) (fun _ => rfl) (fun a => c_row_of a) (fun a X E e1 e2 e3 e4 e5 hX hM => by
    subst e1 e2 e3 e4 e5
    exact bd_row_of X E hX hM kn_Need_init kn_held_row kn_read_expr kn_take_row kn_told_row a)
abbrev s_read_row : Stmt := top 36
abbrev nm_read_row : List Str := ["text", "row"]
theorem sc_read_row : FnScope nm_read_row ["text"] (defScope s_read_row) := ⟨rfl, rfl, rfl, by decide +kernel, rfl, by decide +kernel, by decide +kernel⟩
theorem lk_read_row_NoExpr : (defScope s_read_row).names.lookup ("NoExpr" : Str) = some .globalImplicit := by decide +kernel
theorem lk_read_row_NoText : (defScope s_read_row).names.lookup ("NoText" : Str) = some .globalImplicit := by decide +kernel
theorem lk_read_row_isinstance : (defScope s_read_row).names.lookup ("isinstance" : Str) = some .globalImplicit := by decide +kernel
theorem lk_read_row_row : (defScope s_read_row).names.lookup ("row" : Str) = some .local := by decide +kernel
theorem lk_read_row_row_of : (defScope s_read_row).names.lookup ("row_of" : Str) = some .globalImplicit := by decide +kernel
theorem lk_read_row_str : (defScope s_read_row).names.lookup ("str" : Str) = some .globalImplicit := by decide +kernel
theorem lk_read_row_text : (defScope s_read_row).names.lookup ("text" : Str) = some .local := by decide +kernel
noncomputable def c_read_row (a0 : (List Nat)) : Co Unit Empty RowT := bnd (none : (Option RowT)) fun v1 => Co.bind (S := (Option RowT)) (if true = true then Co.bind (S := (Option RowT)) (tryO ((rowOfF (splitS a0 [32])) : Out (Option RowT)) isx_NoExpr (fun v3 => .go v3) fun x4 => Co.ne (bnd (none : (Option RowT)) fun v10 => .go v10)) fun s11 => .go s11 else .ret .stk) fun s12 => if (s12.isNone) = true then Co.up (.ret (.err ⟨"NoText", xNoText (0 : Int)⟩)) else chk ((s12.isSome = true)) (.ret (.ok (s12.getD (RowT.Need []))))
noncomputable def readRowF (a0 : (List Nat)) : Out RowT := (c_read_row a0).out .stk
theorem bd_read_row (X : Cx) (E : XK) (hX : XOk 6 nm_read_row (defScope s_read_row) X) (hM : XCm X E) (m_isinstance : X.mg "isinstance" = none) (m_str : X.mg "str" = none) (kn_NoText_init : MkXX X "NoText" 1 (sp_NoText_init X.K)) (kn_row_of : KnX X "row_of" 6 (sp_row_of X.K)) (xh_NoExpr : ExH X.K X.mg "NoExpr" isx_NoExpr) (a0 : (List Nat)) : BC X E ([.d (D.str a0), .un] : List B) (defBody s_read_row) (fun s : Unit => List.replicate 2 B.un) (fun s : Empty => nomatch s) (fun z : RowT => Res.v (encRow z)) (c_read_row a0) := by
  unfold c_read_row
  exact (c_set 1 (fun z : (Option RowT) => (encO encRow z)) hX rfl (loc_l lk_read_row_row) ed_non (fun v1 hv1 => (show BC X E ([.d (D.str a0), .d (encO encRow v1)] : List B) _ _ _ _ _ from (c_ifj (Γj := (fun s12 : (Option RowT) => ([.d (D.str a0), .d (encO encRow s12)] : List B))) (et_val (ed_isi (hX.gl lk_read_row_isinstance) m_isinstance (ed_var 0 (hX.nm rfl) (hX.vs (vis_l lk_read_row_text)) rfl) (ed_ty (n := "str") (hX.gl lk_read_row_str) m_str (by decide +kernel)) rfl (by decide +kernel))) (fun h2 => (c_tryA (Γj := (fun s11 : (Option RowT) => ([.d (D.str a0), .d (encO encRow s11)] : List B))) 1 (fun z : (Option RowT) => (encO encRow z)) (s1 := fun v3 => v3) hM hX rfl (loc_l lk_read_row_row) xh_NoExpr (hX.gl lk_read_row_NoExpr) (fun W pn xe tk => (es_call (E := (L2.WE W)) (splitS a0 [32]) tk kn_row_of (hM.room hX (by decide)) (hX.gl lk_read_row_row_of) (ea2_d (EvO.frz (eo_split (ed_var 0 (hX.nm rfl) (hX.vs (vis_l lk_read_row_text)) rfl) (ed_str [32] (by decide +kernel) (by decide)) (by decide))) ea2_nil) trivial)) (fun v3 => (.keep (.keep .nil))) (fun x4 xa5 xo7 xp8 hX => (c_set 1 (fun z : (Option RowT) => (encO encRow z)) hX rfl (loc_l lk_read_row_row) ed_non (fun v10 hv10 => (show BC (X.suite xa5 ((xa5, xo7) :: xp8)) E0 ([.d (D.str a0), .d (encO encRow v10)] : List B) _ _ _ _ _ from (c_nil (.keep (.keep .nil))))))) (fun s11 => (c_nil (.keep (.keep .nil)))))) (fun h2 => absurd h2 (by decide)) (fun s12 => (c_ifr (et_cmp (od_isNO (fun x => by cases x <;> rfl) s12) (ed_var 1 (hX.nm rfl) (hX.vs (vis_l lk_read_row_row)) rfl) ed_non) (fun h13 => (c_raiseX (lv := 1) (0 : Int) hM hX kn_NoText_init (hM.room hX (by decide)) (hX.gl lk_read_row_NoText) (ea2_d ed_int ea2_nil) (by decide) (by unfold xNoText; simp))) (fun h13 => (c_chk (fun h15 => (have c14 := h15; (c_ret (ed_cast (encO_get (RowT.Need []) c14) (ed_var 1 (hX.nm rfl) (hX.vs (vis_l lk_read_row_row)) rfl)) rfl)))))))))))
abbrev sp_read_row (K : PySem.W.Frag) : Sp := spG K (A := (List Nat)) (fun a => [.d (D.str a)]) (fun _ => True) (fun a => rsOf (fun z : RowT => Res.v (encRow z)) (readRowF a))
theorem ok_read_row {P : Program} {w : World} {K : PySem.W.Frag} {mg : Str → Option Value} {base : Heap} {f : Addr} {fd : FuncData} (F : Fun K "read_row" "read_row" s_read_row f fd) (m_isinstance : mg "isinstance" = none) (m_str : mg "str" = none) (kn_NoText_init : MkrX P w K mg base "NoText" 1 (sp_NoText_init K)) (kn_row_of : Kn P w K mg base "row_of" 6 (sp_row_of K)) (xh_NoExpr : ExH K mg "NoExpr" isx_NoExpr) : FnOk P w K mg base (L2.CX P w) 7 f fd ["text"] (sp_read_row K) :=
  def_okC (A := (List Nat)) F sc_read_row .stk (.inl rfl) (fun _ => rfl) (fun a => c_read_row a) (fun a X E e1 e2 e3 e4 e5 hX hM => by
    subst e1 e2 e3 e4 e5
    exact bd_read_row X E hX hM m_isinstance m_str kn_NoText_init kn_row_of xh_NoExpr a)
abbrev s_law_cell : Stmt := top 38
abbrev nm_law_cell : List Str := ["_law_script", "_law_k"]
theorem sc_law_cell : FnScope nm_law_cell ["_law_script", "_law_k"] (defScope s_law_cell) := ⟨rfl, rfl, rfl, by decide +kernel, rfl, by decide +kernel, by decide +kernel⟩
theorem lk_law_cell_law_k : (defScope s_law_cell).names.lookup ("_law_k" : Str) = some .local := by decide +kernel
theorem lk_law_cell_law_script : (defScope s_law_cell).names.lookup ("_law_script" : Str) = some .local := by decide +kernel
theorem lk_law_cell_len : (defScope s_law_cell).names.lookup ("len" : Str) = some .globalImplicit := by decide +kernel
noncomputable def c_cell (a0 : (List Int)) (a1 : Int) : Co Unit Empty Int := if (decide (a1 < (a0.length : Int))) = true then Co.up (chk ((-((a0).length : Int) ≤ a1 ∧ a1 < ((a0).length : Int))) (.ret (.ok ((ix a0 a1 0) % BM 18000)))) else .ret (.ok (0 : Int))
noncomputable def cellF (a0 : (List Int)) (a1 : Int) : Out Int := (c_cell a0 a1).out .stk
theorem bd_cell (X : Cx) (E : XK) (hX : XOk 0 nm_law_cell (defScope s_law_cell) X) (hM : XCm X E) (m_len : X.mg "len" = none) (a0 : (List Int)) (a1 : Int) : BC X E ([.d (D.scr a0), .d (D.int a1)] : List B) (defBody s_law_cell) (fun s : Unit => List.replicate 2 B.un) (fun s : Empty => nomatch s) (fun z : Int => Res.v (D.int z)) (c_cell a0 a1) := by
  unfold c_cell
  exact (c_ifr (et_cmp (od_lt _ _) (ed_var 1 (hX.nm rfl) (hX.vs (vis_l lk_law_cell_law_k)) rfl) (ed_lenScr (hX.gl lk_law_cell_len) m_len (ed_var 0 (hX.nm rfl) (hX.vs (vis_l lk_law_cell_law_script)) rfl))) (fun h1 => (c_chk (fun h3 => (have c2 := h3; (c_ret (ed_op (od_andK 18000 _) (ed_ixScr (ed_var 0 (hX.nm rfl) (hX.vs (vis_l lk_law_cell_law_script)) rfl) (ed_var 1 (hX.nm rfl) (hX.vs (vis_l lk_law_cell_law_k)) rfl) (ix_ok (d := 0) c2)) (ed_op (od_sub _ _) (ed_op (od_shlW 18000 _ (by decide) rfl) ed_int ed_int) ed_int)) rfl))))) (fun h1 => (c_ret ed_int rfl)))
abbrev sp_cell (K : PySem.W.Frag) : Sp := spG K (A := (List Int) × Int) (fun a => [.d (D.scr a.1), .d (D.int a.2)]) (fun _ => True) (fun a => rsOf (fun z : Int => Res.v (D.int z)) (cellF a.1 a.2))
theorem ok_cell {P : Program} {w : World} {K : PySem.W.Frag} {mg : Str → Option Value} {base : Heap} {f : Addr} {fd : FuncData} (F : Fun K "_law_cell" "_law_cell" s_law_cell f fd) (m_len : mg "len" = none) : FnOk P w K mg base (L2.CX P w) 1 f fd ["_law_script", "_law_k"] (sp_cell K) :=
  def_okC (A := (List Int) × Int) F sc_law_cell .stk (.inl rfl) (fun _ => rfl) (fun a => c_cell a.1 a.2) (fun a X E e1 e2 e3 e4 e5 hX hM => by
    subst e1 e2 e3 e4 e5
    exact bd_cell X E hX hM m_len a.1 a.2)
abbrev s_law_sub : Stmt := top 39
abbrev nm_law_sub : List Str := ["_law_cell_here", "_law_j"]
theorem sc_law_sub : FnScope nm_law_sub ["_law_cell_here", "_law_j"] (defScope s_law_sub) := ⟨rfl, rfl, rfl, by decide +kernel, rfl, by decide +kernel, by decide +kernel⟩
theorem lk_law_sub_law_cell_here : (defScope s_law_sub).names.lookup ("_law_cell_here" : Str) = some .local := by decide +kernel
theorem lk_law_sub_law_j : (defScope s_law_sub).names.lookup ("_law_j" : Str) = some .local := by decide +kernel
noncomputable def c_sub (a0 : Int) (a1 : Int) : Co Unit Empty Int := chk (((decide ((a0 % (2 : Int)) = (1 : Int))) = true → (0 ≤ (((480 : Int) * a1) + (400 : Int))))) (if ((decide ((a0 % (2 : Int)) = (1 : Int))) && (decide ((0 : Int) < (a0 / 2 ^ ((((480 : Int) * a1) + (400 : Int))).toNat)))) = true then Co.up (chk ((0 ≤ ((480 : Int) * a1))) (.ret (.ok (Builtin.bitOr (a0 / 2 ^ (((480 : Int) * a1)).toNat) (1 : Int))))) else chk ((CDiv (a0 / (2 : Int)) (a1 + (1 : Int)))) (.ret (.ok ((((a0 / (2 : Int)) / (a1 + (1 : Int))) + ((104729 : Int) * a1)) * (2 : Int)))))
noncomputable def subF (a0 : Int) (a1 : Int) : Out Int := (c_sub a0 a1).out .stk
theorem bd_sub (X : Cx) (E : XK) (hX : XOk 0 nm_law_sub (defScope s_law_sub) X) (hM : XCm X E) (a0 : Int) (a1 : Int) : BC X E ([.d (D.int a0), .d (D.int a1)] : List B) (defBody s_law_sub) (fun s : Unit => List.replicate 2 B.un) (fun s : Empty => nomatch s) (fun z : Int => Res.v (D.int z)) (c_sub a0 a1) := by
  unfold c_sub
  exact (c_chk (fun h9 => (have c3 := h9; (c_ifr (et_w (ew_and (et_cmp (od_eqI _ _) (ed_op (od_mod _ _ (by decide)) (ed_var 0 (hX.nm rfl) (hX.vs (vis_l lk_law_sub_law_cell_here)) rfl) ed_int) ed_int) (fun h2 => (have c1 := (c3 h2); (ew_and1 (et_cmp (od_gt _ _) (ed_op (od_shr _ _ c1) (ed_var 0 (hX.nm rfl) (hX.vs (vis_l lk_law_sub_law_cell_here)) rfl) (ed_op (od_add _ _) (ed_op (od_mul _ _ (.inl (by decide))) ed_int (ed_var 1 (hX.nm rfl) (hX.vs (vis_l lk_law_sub_law_j)) rfl)) ed_int)) ed_int)))))) (fun h4 => (c_chk (fun h6 => (have c5 := h6; (c_ret (ed_op (od_or _ _) (ed_op (od_shr _ _ c5) (ed_var 0 (hX.nm rfl) (hX.vs (vis_l lk_law_sub_law_cell_here)) rfl) (ed_op (od_mul _ _ (.inl (by decide))) ed_int (ed_var 1 (hX.nm rfl) (hX.vs (vis_l lk_law_sub_law_j)) rfl))) ed_int) rfl))))) (fun h4 => (c_chk (fun h8 => (have c7 := h8; (c_ret (ed_op (od_mul _ _ (.inr (by decide))) (ed_op (od_add _ _) (ed_op (od_div _ _ c7) (ed_op (od_div _ _ (show CDiv _ _ from ⟨by decide, by decide⟩)) (ed_var 0 (hX.nm rfl) (hX.vs (vis_l lk_law_sub_law_cell_here)) rfl) ed_int) (ed_op (od_add _ _) (ed_var 1 (hX.nm rfl) (hX.vs (vis_l lk_law_sub_law_j)) rfl) ed_int)) (ed_op (od_mul _ _ (.inl (by decide))) ed_int (ed_var 1 (hX.nm rfl) (hX.vs (vis_l lk_law_sub_law_j)) rfl))) ed_int) rfl)))))))))
abbrev sp_sub (K : PySem.W.Frag) : Sp := spG K (A := Int × Int) (fun a => [.d (D.int a.1), .d (D.int a.2)]) (fun _ => True) (fun a => rsOf (fun z : Int => Res.v (D.int z)) (subF a.1 a.2))
theorem ok_sub {P : Program} {w : World} {K : PySem.W.Frag} {mg : Str → Option Value} {base : Heap} {f : Addr} {fd : FuncData} (F : Fun K "_law_sub" "_law_sub" s_law_sub f fd) : FnOk P w K mg base (L2.CX P w) 1 f fd ["_law_cell_here", "_law_j"] (sp_sub K) :=
  def_okC (A := Int × Int) F sc_law_sub .stk (.inl rfl) (fun _ => rfl) (fun a => c_sub a.1 a.2) (fun a X E e1 e2 e3 e4 e5 hX hM => by
    subst e1 e2 e3 e4 e5
    exact bd_sub X E hX hM a.1 a.2)
abbrev s_law_pick : Stmt := top 41
abbrev nm_law_pick : List Str := ["_law_cell_here", "_law_k", "_law_many", "_law_great", "_law_by", "_law_one"]
theorem sc_law_pick : FnScope nm_law_pick ["_law_cell_here", "_law_k", "_law_many"] (defScope s_law_pick) := ⟨rfl, rfl, rfl, by decide +kernel, rfl, by decide +kernel, by decide +kernel⟩
theorem lk_law_pick_law_by : (defScope s_law_pick).names.lookup ("_law_by" : Str) = some .local := by decide +kernel
theorem lk_law_pick_law_cell_here : (defScope s_law_pick).names.lookup ("_law_cell_here" : Str) = some .local := by decide +kernel
theorem lk_law_pick_law_great : (defScope s_law_pick).names.lookup ("_law_great" : Str) = some .local := by decide +kernel
theorem lk_law_pick_law_k : (defScope s_law_pick).names.lookup ("_law_k" : Str) = some .local := by decide +kernel
theorem lk_law_pick_law_many : (defScope s_law_pick).names.lookup ("_law_many" : Str) = some .local := by decide +kernel
theorem lk_law_pick_law_one : (defScope s_law_pick).names.lookup ("_law_one" : Str) = some .local := by decide +kernel
noncomputable def c_pick (a0 : Int) (a1 : Int) (a2 : Int) : Co Unit Empty Int := if ((decide ((a0 % (2 : Int)) = (1 : Int))) && (decide ((0 : Int) < (a0 / 2 ^ ((400 : Int)).toNat)))) = true then Co.up (chk ((0 ≤ ((1 : Int) + ((10 : Int) * a1))) ∧ (0 < a2)) (.ret (.ok (((a0 / 2 ^ (((1 : Int) + ((10 : Int) * a1))).toNat) % 2 ^ 10) % a2)))) else bnd ((2305843009213693951 : Int) : Int) fun v6 => chk ((-((([(48271 : Int), (1000003 : Int), (15485863 : Int), (32452843 : Int), (49979687 : Int), (67867967 : Int), (86028121 : Int), (104395301 : Int)] : List Int)).length : Int) ≤ (a1 % (8 : Int)) ∧ (a1 % (8 : Int)) < ((([(48271 : Int), (1000003 : Int), (15485863 : Int), (32452843 : Int), (49979687 : Int), (67867967 : Int), (86028121 : Int), (104395301 : Int)] : List Int)).length : Int))) (bnd ((ix ([(48271 : Int), (1000003 : Int), (15485863 : Int), (32452843 : Int), (49979687 : Int), (67867967 : Int), (86028121 : Int), (104395301 : Int)] : List Int) (a1 % (8 : Int)) (0 : Int)) : Int) fun v7 => chk ((-((([(179424673 : Int), (373587883 : Int), (573259391 : Int), (776531401 : Int), (982451653 : Int)] : List Int)).length : Int) ≤ (a1 / (8 : Int)) ∧ (a1 / (8 : Int)) < ((([(179424673 : Int), (373587883 : Int), (573259391 : Int), (776531401 : Int), (982451653 : Int)] : List Int)).length : Int)) ∧ (CMul v7 (ix ([(179424673 : Int), (373587883 : Int), (573259391 : Int), (776531401 : Int), (982451653 : Int)] : List Int) (a1 / (8 : Int)) (0 : Int)))) (bnd ((v7 * (ix ([(179424673 : Int), (373587883 : Int), (573259391 : Int), (776531401 : Int), (982451653 : Int)] : List Int) (a1 / (8 : Int)) (0 : Int))) : Int) fun v9 => chk ((0 < v6) ∧ (CMul (((a0 / (2 : Int)) % v6) + (1 : Int)) v9) ∧ (0 < v6)) (bnd ((((((a0 / (2 : Int)) % v6) + (1 : Int)) * v9) % v6) : Int) fun v12 => chk ((CMul v12 v12)) (bnd (((v12 * v12) % (1000000000039 : Int)) : Int) fun v16 => chk ((CMul ((v16 + a1) + (1 : Int)) ((v16 / (10007 : Int)) + (48271 : Int))) ∧ (0 < a2)) (.ret (.ok ((((((v16 + a1) + (1 : Int)) * ((v16 / (10007 : Int)) + (48271 : Int))) % (67280421310721 : Int)) / (31 : Int)) % a2)))))))
noncomputable def pickF (a0 : Int) (a1 : Int) (a2 : Int) : Out Int := (c_pick a0 a1 a2).out .stk
theorem bd_pick (X : Cx) (E : XK) (hX : XOk 0 nm_law_pick (defScope s_law_pick) X) (hM : XCm X E) (a0 : Int) (a1 : Int) (a2 : Int) : BC X E ([.d (D.int a0), .d (D.int a1), .d (D.int a2), .un, .un, .un] : List B) (defBody s_law_pick) (fun s : Unit => List.replicate 6 B.un) (fun s : Empty => nomatch s) (fun z : Int => Res.v (D.int z)) (c_pick a0 a1 a2) := by
  unfold c_pick
  exact (c_ifr (et_w (ew_and (et_cmp (od_eqI _ _) (ed_op (od_mod _ _ (by decide)) (ed_var 0 (hX.nm rfl) (hX.vs (vis_l lk_law_pick_law_cell_here)) rfl) ed_int) ed_int) (fun h1 => (ew_and1 (et_cmp (od_gt _ _) (ed_op (od_shr _ _ (by decide)) (ed_var 0 (hX.nm rfl) (hX.vs (vis_l lk_law_pick_law_cell_here)) rfl) ed_int) ed_int))))) (fun h2 => (c_chk (fun h5 => (have ⟨c3, c4⟩ := h5; (c_ret (ed_op (od_mod _ _ c4) (ed_op (od_andM _ _ 10 (by decide)) (ed_op (od_shr _ _ c3) (ed_var 0 (hX.nm rfl) (hX.vs (vis_l lk_law_pick_law_cell_here)) rfl) (ed_op (od_add _ _) ed_int (ed_op (od_mul _ _ (.inl (by decide))) ed_int (ed_var 1 (hX.nm rfl) (hX.vs (vis_l lk_law_pick_law_k)) rfl)))) ed_int) (ed_var 2 (hX.nm rfl) (hX.vs (vis_l lk_law_pick_law_many)) rfl)) rfl))))) (fun h2 => (c_set 3 D.int hX rfl (loc_l lk_law_pick_law_great) ed_int (fun v6 hv6 => (show BC X E ([.d (D.int a0), .d (D.int a1), .d (D.int a2), .d (D.int v6), .un, .un] : List B) _ _ _ _ _ from (c_chk (fun h24 => (have c8 := h24; (c_set 4 D.int hX rfl (loc_l lk_law_pick_law_by) (ed_ixL (EvO.el (eo_lst (ea_cons ed_int (ea_cons ed_int (ea_cons ed_int (ea_cons ed_int (ea_cons ed_int (ea_cons ed_int (ea_cons ed_int (ea_cons ed_int ea_nil)))))))) (by show 8 ≤ sizeLine; decide))) (ed_op (od_mod _ _ (by decide)) (ed_var 1 (hX.nm rfl) (hX.vs (vis_l lk_law_pick_law_k)) rfl) ed_int) (atI_map (f := D.int) (xs := ([(48271 : Int), (1000003 : Int), (15485863 : Int), (32452843 : Int), (49979687 : Int), (67867967 : Int), (86028121 : Int), (104395301 : Int)] : List Int)) (ix_ok (d := (0 : Int)) c8))) (fun v7 hv7 => (show BC X E ([.d (D.int a0), .d (D.int a1), .d (D.int a2), .d (D.int v6), .d (D.int v7), .un] : List B) _ _ _ _ _ from (c_chk (fun h23 => (have ⟨c10, c11⟩ := h23; (c_set 4 D.int hX rfl (loc_l lk_law_pick_law_by) (ed_op (od_mul _ _ c11) (ed_var 4 (hX.nm rfl) (hX.vs (vis_l lk_law_pick_law_by)) rfl) (ed_ixL (EvO.el (eo_lst (ea_cons ed_int (ea_cons ed_int (ea_cons ed_int (ea_cons ed_int (ea_cons ed_int ea_nil))))) (by show 5 ≤ sizeLine; decide))) (ed_op (od_div _ _ (show CDiv _ _ from ⟨by decide, by decide⟩)) (ed_var 1 (hX.nm rfl) (hX.vs (vis_l lk_law_pick_law_k)) rfl) ed_int) (atI_map (f := D.int) (xs := ([(179424673 : Int), (373587883 : Int), (573259391 : Int), (776531401 : Int), (982451653 : Int)] : List Int)) (ix_ok (d := (0 : Int)) c10)))) (fun v9 hv9 => (show BC X E ([.d (D.int a0), .d (D.int a1), .d (D.int a2), .d (D.int v6), .d (D.int v9), .un] : List B) _ _ _ _ _ from (c_chk (fun h22 => (have ⟨c13, c14, c15⟩ := h22; (c_set 5 D.int hX rfl (loc_l lk_law_pick_law_one) (ed_op (od_mod _ _ c15) (ed_op (od_mul _ _ c14) (ed_op (od_add _ _) (ed_op (od_mod _ _ c13) (ed_op (od_div _ _ (show CDiv _ _ from ⟨by decide, by decide⟩)) (ed_var 0 (hX.nm rfl) (hX.vs (vis_l lk_law_pick_law_cell_here)) rfl) ed_int) (ed_var 3 (hX.nm rfl) (hX.vs (vis_l lk_law_pick_law_great)) rfl)) ed_int) (ed_var 4 (hX.nm rfl) (hX.vs (vis_l lk_law_pick_law_by)) rfl)) (ed_var 3 (hX.nm rfl) (hX.vs (vis_l lk_law_pick_law_great)) rfl)) (fun v12 hv12 => (show BC X E ([.d (D.int a0), .d (D.int a1), .d (D.int a2), .d (D.int v6), .d (D.int v9), .d (D.int v12)] : List B) _ _ _ _ _ from (c_chk (fun h21 => (have c17 := h21; (c_set 5 D.int hX rfl (loc_l lk_law_pick_law_one) (ed_op (od_mod _ _ (by decide)) (ed_op (od_mul _ _ c17) (ed_var 5 (hX.nm rfl) (hX.vs (vis_l lk_law_pick_law_one)) rfl) (ed_var 5 (hX.nm rfl) (hX.vs (vis_l lk_law_pick_law_one)) rfl)) ed_int) (fun v16 hv16 => (show BC X E ([.d (D.int a0), .d (D.int a1), .d (D.int a2), .d (D.int v6), .d (D.int v9), .d (D.int v16)] : List B) _ _ _ _ _ from (c_chk (fun h20 => (have ⟨c18, c19⟩ := h20; (c_ret (ed_op (od_mod _ _ c19) (ed_op (od_div _ _ (show CDiv _ _ from ⟨by decide, by decide⟩)) (ed_op (od_mod _ _ (by decide)) (ed_op (od_mul _ _ c18) (ed_op (od_add _ _) (ed_op (od_add _ _) (ed_var 5 (hX.nm rfl) (hX.vs (vis_l lk_law_pick_law_one)) rfl) (ed_var 1 (hX.nm rfl) (hX.vs (vis_l lk_law_pick_law_k)) rfl)) ed_int) (ed_op (od_add _ _) (ed_op (od_div _ _ (show CDiv _ _ from ⟨by decide, by decide⟩)) (ed_var 5 (hX.nm rfl) (hX.vs (vis_l lk_law_pick_law_one)) rfl) ed_int) ed_int)) ed_int) ed_int) (ed_var 2 (hX.nm rfl) (hX.vs (vis_l lk_law_pick_law_many)) rfl)) rfl)))))))))))))))))))))))))))))))))
abbrev sp_pick (K : PySem.W.Frag) : Sp := spG K (A := Int × Int × Int) (fun a => [.d (D.int a.1), .d (D.int a.2.1), .d (D.int a.2.2)]) (fun _ => True) (fun a => rsOf (fun z : Int => Res.v (D.int z)) (pickF a.1 a.2.1 a.2.2))
theorem ok_pick {P : Program} {w : World} {K : PySem.W.Frag} {mg : Str → Option Value} {base : Heap} {f : Addr} {fd : FuncData} (F : Fun K "_law_pick" "_law_pick" s_law_pick f fd) : FnOk P w K mg base (L2.CX P w) 1 f fd ["_law_cell_here", "_law_k", "_law_many"] (sp_pick K) :=
  def_okC (A := Int × Int × Int) F sc_law_pick .stk (.inl rfl) (fun _ => rfl) (fun a => c_pick a.1 a.2.1 a.2.2) (fun a X E e1 e2 e3 e4 e5 hX hM => by
    subst e1 e2 e3 e4 e5
    exact bd_pick X E hX hM a.1 a.2.1 a.2.2)
abbrev s_law_number : Stmt := top 40
abbrev nm_law_number : List Str := ["_law_cell_here", "_law_far"]
theorem sc_law_number : FnScope nm_law_number ["_law_cell_here", "_law_far"] (defScope s_law_number) := ⟨rfl, rfl, rfl, by decide +kernel, rfl, by decide +kernel, by decide +kernel⟩
theorem lk_law_number_law_cell_here : (defScope s_law_number).names.lookup ("_law_cell_here" : Str) = some .local := by decide +kernel
theorem lk_law_number_law_far : (defScope s_law_number).names.lookup ("_law_far" : Str) = some .local := by decide +kernel
noncomputable def c_number (a0 : Int) (a1 : Int) : Co Unit Empty Int := if ((decide ((a0 % (2 : Int)) = (1 : Int))) && (decide ((0 : Int) < (a0 / 2 ^ ((400 : Int)).toNat)))) = true then Co.up (chk ((0 < a1)) (.ret (.ok ((a0 / 2 ^ ((400 : Int)).toNat) % a1)))) else chk ((0 < a1)) (.ret (.ok ((a0 / (2 : Int)) % a1)))
noncomputable def numberF (a0 : Int) (a1 : Int) : Out Int := (c_number a0 a1).out .stk
theorem bd_number (X : Cx) (E : XK) (hX : XOk 0 nm_law_number (defScope s_law_number) X) (hM : XCm X E) (a0 : Int) (a1 : Int) : BC X E ([.d (D.int a0), .d (D.int a1)] : List B) (defBody s_law_number) (fun s : Unit => List.replicate 2 B.un) (fun s : Empty => nomatch s) (fun z : Int => Res.v (D.int z)) (c_number a0 a1) := by
  unfold c_number
  exact (c_ifr (et_w (ew_and (et_cmp (od_eqI _ _) (ed_op (od_mod _ _ (by decide)) (ed_var 0 (hX.nm rfl) (hX.vs (vis_l lk_law_number_law_cell_here)) rfl) ed_int) ed_int) (fun h1 => (ew_and1 (et_cmp (od_gt _ _) (ed_op (od_shr _ _ (by decide)) (ed_var 0 (hX.nm rfl) (hX.vs (vis_l lk_law_number_law_cell_here)) rfl) ed_int) ed_int))))) (fun h2 => (c_chk (fun h4 => (have c3 := h4; (c_ret (ed_op (od_mod _ _ c3) (ed_op (od_shr _ _ (by decide)) (ed_var 0 (hX.nm rfl) (hX.vs (vis_l lk_law_number_law_cell_here)) rfl) ed_int) (ed_var 1 (hX.nm rfl) (hX.vs (vis_l lk_law_number_law_far)) rfl)) rfl))))) (fun h2 => (c_chk (fun h6 => (have c5 := h6; (c_ret (ed_op (od_mod _ _ c5) (ed_op (od_div _ _ (show CDiv _ _ from ⟨by decide, by decide⟩)) (ed_var 0 (hX.nm rfl) (hX.vs (vis_l lk_law_number_law_cell_here)) rfl) ed_int) (ed_var 1 (hX.nm rfl) (hX.vs (vis_l lk_law_number_law_far)) rfl)) rfl))))))
abbrev sp_number (K : PySem.W.Frag) : Sp := spG K (A := Int × Int) (fun a => [.d (D.int a.1), .d (D.int a.2)]) (fun _ => True) (fun a => rsOf (fun z : Int => Res.v (D.int z)) (numberF a.1 a.2))
theorem ok_number {P : Program} {w : World} {K : PySem.W.Frag} {mg : Str → Option Value} {base : Heap} {f : Addr} {fd : FuncData} (F : Fun K "_law_number" "_law_number" s_law_number f fd) : FnOk P w K mg base (L2.CX P w) 1 f fd ["_law_cell_here", "_law_far"] (sp_number K) :=
  def_okC (A := Int × Int) F sc_law_number .stk (.inl rfl) (fun _ => rfl) (fun a => c_number a.1 a.2) (fun a X E e1 e2 e3 e4 e5 hX hM => by
    subst e1 e2 e3 e4 e5
    exact bd_number X E hX hM a.1 a.2)
abbrev s_law_name : Stmt := top 42
abbrev nm_law_name : List Str := ["_law_cell_here", "_law_letters", "_law_j"]
theorem sc_law_name : FnScope nm_law_name ["_law_cell_here"] (defScope s_law_name) := ⟨rfl, rfl, rfl, by decide +kernel, rfl, by decide +kernel, by decide +kernel⟩
theorem lk_law_name_law_cell_here : (defScope s_law_name).names.lookup ("_law_cell_here" : Str) = some .cell := by decide +kernel
theorem lk_law_name_law_letters : (defScope s_law_name).names.lookup ("_law_letters" : Str) = some .cell := by decide +kernel
theorem lk_law_name_law_pick : (defScope s_law_name).names.lookup ("_law_pick" : Str) = some .globalImplicit := by decide +kernel
theorem lk_law_name_range : (defScope s_law_name).names.lookup ("range" : Str) = some .globalImplicit := by decide +kernel
noncomputable def c_name (a0 : Int) : Co Unit Empty (List Nat) := bnd (([97, 98, 99, 100, 101, 102, 103, 104, 105, 106, 107, 108, 109, 110, 111, 112, 113, 114, 115, 116, 117, 118, 119, 120, 121, 122] : List Nat) : (List Nat)) fun v1 => chk ((((pickF a0 (30 : Int) (8 : Int))).IsOk) ∧ (-(2 ^ 62) ≤ ((1 : Int) + ((pickF a0 (30 : Int) (8 : Int)).get (0 : Int))) ∧ ((1 : Int) + ((pickF a0 (30 : Int) (8 : Int)).get (0 : Int))) < 2 ^ 62) ∧ (∀ y4 ∈ (rints 0 (((1 : Int) + ((pickF a0 (30 : Int) (8 : Int)).get (0 : Int)))).toNat), (((pickF a0 ((31 : Int) + y4) (26 : Int))).IsOk) ∧ (-((v1).length : Int) ≤ ((pickF a0 ((31 : Int) + y4) (26 : Int)).get (0 : Int)) ∧ ((pickF a0 ((31 : Int) + y4) (26 : Int)).get (0 : Int)) < ((v1).length : Int))) ∧ ((rints 0 (((1 : Int) + ((pickF a0 (30 : Int) (8 : Int)).get (0 : Int)))).toNat).length < sizeLine) ∧ ((List.map (·.length) (List.map (fun y4 : Int => [(ix v1 ((pickF a0 ((31 : Int) + y4) (26 : Int)).get (0 : Int)) 0)]) (rints 0 (((1 : Int) + ((pickF a0 (30 : Int) (8 : Int)).get (0 : Int)))).toNat))).sum + (List.map (fun y4 : Int => [(ix v1 ((pickF a0 ((31 : Int) + y4) (26 : Int)).get (0 : Int)) 0)]) (rints 0 (((1 : Int) + ((pickF a0 (30 : Int) (8 : Int)).get (0 : Int)))).toNat)).length * ([] : List Nat).length ≤ LMax)) (.ret (.ok (joinS ([] : List Nat) (List.map (fun y4 : Int => [(ix v1 ((pickF a0 ((31 : Int) + y4) (26 : Int)).get (0 : Int)) 0)]) (rints 0 (((1 : Int) + ((pickF a0 (30 : Int) (8 : Int)).get (0 : Int)))).toNat)))))
noncomputable def nameF (a0 : Int) : Out (List Nat) := (c_name a0).out .stk
theorem bd_name (X : Cx) (E : XK) (hX : XOk 1 nm_law_name (defScope s_law_name) X) (hM : XCm X E) (m_range : X.mg "range" = none) (kn_pick : KnX X "_law_pick" 1 (sp_pick X.K)) (a0 : Int) : BC X E ([.d (D.int a0), .un, .un] : List B) (defBody s_law_name) (fun s : Unit => List.replicate 3 B.un) (fun s : Empty => nomatch s) (fun z : (List Nat) => Res.v (D.str z)) (c_name a0) := by
  unfold c_name
  exact (c_set 1 D.str hX rfl (loc_c lk_law_name_law_letters) (ed_str ([97, 98, 99, 100, 101, 102, 103, 104, 105, 106, 107, 108, 109, 110, 111, 112, 113, 114, 115, 116, 117, 118, 119, 120, 121, 122] : List Nat) (by decide +kernel) (by decide)) (fun v1 hv1 => (show BC X E ([.d (D.int a0), .d (D.str v1), .un] : List B) _ _ _ _ _ from (c_chk (fun h12 => (have ⟨c2, c3, c9, c10, c11⟩ := h12; (c_ret (ed_join (ed_str ([] : List Nat) (by decide +kernel) (by decide)) (EvO.el (eo_lc hM.calm hX.nd (lc_ok0 (Yt := Int) (τ := (List Nat)) (encY := D.int) (enc := D.str) (g := (gName 2)) (js := [2]) (own := [("_law_j", 2)]) (rints 0 (((1 : Int) + ((pickF a0 (30 : Int) (8 : Int)).get (0 : Int)))).toNat) (fun y4 : Int => [(ix v1 ((pickF a0 ((31 : Int) + y4) (26 : Int)).get (0 : Int)) 0)]) (it_range1 (hX.gl lk_law_name_range) m_range (ed_op (od_add _ _) ed_int (ed_okS (z := D.int) (0 : Int) (fun E tk => (es_call (E := E) ((a0, (30 : Int), (8 : Int)) : Int × Int × Int) tk kn_pick (hM.room hX (by decide)) (hX.gl lk_law_name_law_pick) (ea2_d (ed_var 0 (hX.nm rfl) (hX.vs (vis_c lk_law_name_law_cell_here)) rfl) (ea2_d ed_int (ea2_d ed_int ea2_nil))) trivial)) (fun _ => rfl) c2)) c3) (blk_ok hX (by decide +kernel)) (fun _ _ _ _ _ => (pg_name (i := 2) hX.nd (hX.nm rfl) (blk_lc hX (loc_l (by decide +kernel))) (.inr (blk_lk hX (by decide +kernel))))) (by decide) c10 (fun y4 : Int => ([.d (D.int a0), .d (D.str v1), .d (D.int y4)] : List B)) (fun y4 _ => (show TgD X.K (gName 2) [2] (wipeB ([.d (D.int a0), .d (D.str v1), .un] : List B) [2]) (D.int y4) ([.d (D.int a0), .d (D.str v1), .d (D.int y4)] : List B) from (tg_name 2))) (fun y4 hy5 _ _ _ _ _ => (have ⟨c7, c8⟩ := (c9 y4 hy5); (ed_ixS (ed_var 1 (hX.nm rfl) (blk_vs hX (vis_c (by decide +kernel))) rfl) (ed_okS (z := D.int) (0 : Int) (fun E tk => (es_call (E := E) ((a0, ((31 : Int) + y4), (26 : Int)) : Int × Int × Int) tk kn_pick (hM.room hX (by decide)) (blk_gl hX (by decide +kernel)) (ea2_d (ed_var 0 (hX.nm rfl) (blk_vs hX (vis_c (by decide +kernel))) rfl) (ea2_d (ed_op (od_add _ _) ed_int (ed_var 2 (hX.nm rfl) (blk_vs hX (vis_l (by decide +kernel))) rfl)) (ea2_d ed_int ea2_nil))) trivial)) (fun _ => rfl) c7) (ix_ok (d := 0) c8))))))) c11) rfl)))))))
abbrev sp_name (K : PySem.W.Frag) : Sp := spG K (A := Int) (fun a => [.d (D.int a)]) (fun _ => True) (fun a => rsOf (fun z : (List Nat) => Res.v (D.str z)) (nameF a))
theorem ok_name {P : Program} {w : World} {K : PySem.W.Frag} {mg : Str → Option Value} {base : Heap} {f : Addr} {fd : FuncData} (F : Fun K "_law_name" "_law_name" s_law_name f fd) (m_range : mg "range" = none) (kn_pick : Kn P w K mg base "_law_pick" 1 (sp_pick K)) : FnOk P w K mg base (L2.CX P w) 2 f fd ["_law_cell_here"] (sp_name K) :=
  def_okC (A := Int) F sc_law_name .stk (.inl rfl) (fun _ => rfl) (fun a => c_name a) (fun a X E e1 e2 e3 e4 e5 hX hM => by
    subst e1 e2 e3 e4 e5
    exact bd_name X E hX hM m_range kn_pick a)
abbrev s_law_label : Stmt := top 43
abbrev nm_law_label : List Str := ["_law_cell_here", "_law_some"]
theorem sc_law_label : FnScope nm_law_label ["_law_cell_here"] (defScope s_law_label) := ⟨rfl, rfl, rfl, by decide +kernel, rfl, by decide +kernel, by decide +kernel⟩
theorem lk_law_label_law_cell_here : (defScope s_law_label).names.lookup ("_law_cell_here" : Str) = some .local := by decide +kernel
theorem lk_law_label_law_name : (defScope s_law_label).names.lookup ("_law_name" : Str) = some .globalImplicit := by decide +kernel
theorem lk_law_label_law_pick : (defScope s_law_label).names.lookup ("_law_pick" : Str) = some .globalImplicit := by decide +kernel
theorem lk_law_label_law_some : (defScope s_law_label).names.lookup ("_law_some" : Str) = some .local := by decide +kernel
noncomputable def c_label (a0 : Int) : Co Unit Empty (List Nat) := bnd (([([108, 101, 116] : List Nat), ([100, 101, 101, 100] : List Nat), ([98, 101] : List Nat), ([100, 114, 97, 119] : List Nat), ([108, 97, 116, 101] : List Nat), ([97, 115] : List Nat), ([116, 97, 107, 101] : List Nat), ([102, 114, 111, 109] : List Nat), ([110, 101, 101, 100] : List Nat), ([112, 97, 114, 116] : List Nat)] : List (List Nat)) : (List (List Nat))) fun v1 => chk ((((pickF a0 (28 : Int) (5 : Int))).IsOk)) (if (decide (((pickF a0 (28 : Int) (5 : Int)).get (0 : Int)) = (0 : Int))) = true then Co.up (chk ((((pickF a0 (29 : Int) (10 : Int))).IsOk) ∧ (-((v1).length : Int) ≤ ((pickF a0 (29 : Int) (10 : Int)).get (0 : Int)) ∧ ((pickF a0 (29 : Int) (10 : Int)).get (0 : Int)) < ((v1).length : Int))) (.ret (.ok (ix v1 ((pickF a0 (29 : Int) (10 : Int)).get (0 : Int)) [])))) else .ret (nameF a0))
noncomputable def labelF (a0 : Int) : Out (List Nat) := (c_label a0).out .stk
theorem bd_label (X : Cx) (E : XK) (hX : XOk 2 nm_law_label (defScope s_law_label) X) (hM : XCm X E) (kn_name : KnX X "_law_name" 2 (sp_name X.K)) (kn_pick : KnX X "_law_pick" 1 (sp_pick X.K)) (a0 : Int) : BC X E ([.d (D.int a0), .un] : List B) (defBody s_law_label) (fun s : Unit => List.replicate 2 B.un) (fun s : Empty => nomatch s) (fun z : (List Nat) => Res.v (D.str z)) (c_label a0) := by
  unfold c_label
  exact (c_setO 1 (fun z : (List (List Nat)) => OO.lst (List.map D.str z)) hX rfl (loc_l lk_law_label_law_some) (eo_lst (ea_cons (ed_str ([108, 101, 116] : List Nat) (by decide +kernel) (by decide)) (ea_cons (ed_str ([100, 101, 101, 100] : List Nat) (by decide +kernel) (by decide)) (ea_cons (ed_str ([98, 101] : List Nat) (by decide +kernel) (by decide)) (ea_cons (ed_str ([100, 114, 97, 119] : List Nat) (by decide +kernel) (by decide)) (ea_cons (ed_str ([108, 97, 116, 101] : List Nat) (by decide +kernel) (by decide)) (ea_cons (ed_str ([97, 115] : List Nat) (by decide +kernel) (by decide)) (ea_cons (ed_str ([116, 97, 107, 101] : List Nat) (by decide +kernel) (by decide)) (ea_cons (ed_str ([102, 114, 111, 109] : List Nat) (by decide +kernel) (by decide)) (ea_cons (ed_str ([110, 101, 101, 100] : List Nat) (by decide +kernel) (by decide)) (ea_cons (ed_str ([112, 97, 114, 116] : List Nat) (by decide +kernel) (by decide)) ea_nil)))))))))) (by show 10 ≤ sizeLine; decide)) (fun v1 hv1 => (show BC X E ([.d (D.int a0), .own (.lst (List.map D.str v1))] : List B) _ _ _ _ _ from (c_chk (fun h7 => (have c2 := h7; (c_ifr (et_cmp (od_eqI _ _) (ed_okS (z := D.int) (0 : Int) (fun E tk => (es_call (E := E) ((a0, (28 : Int), (5 : Int)) : Int × Int × Int) tk kn_pick (hM.room hX (by decide)) (hX.gl lk_law_label_law_pick) (ea2_d (ed_var 0 (hX.nm rfl) (hX.vs (vis_l lk_law_label_law_cell_here)) rfl) (ea2_d ed_int (ea2_d ed_int ea2_nil))) trivial)) (fun _ => rfl) c2) ed_int) (fun h3 => (c_chk (fun h6 => (have ⟨c4, c5⟩ := h6; (c_ret (ed_ixL (el_own 1 (hX.nm rfl) (hX.vs (vis_l lk_law_label_law_some)) rfl) (ed_okS (z := D.int) (0 : Int) (fun E tk => (es_call (E := E) ((a0, (29 : Int), (10 : Int)) : Int × Int × Int) tk kn_pick (hM.room hX (by decide)) (hX.gl lk_law_label_law_pick) (ea2_d (ed_var 0 (hX.nm rfl) (hX.vs (vis_l lk_law_label_law_cell_here)) rfl) (ea2_d ed_int (ea2_d ed_int ea2_nil))) trivial)) (fun _ => rfl) c4) (atI_map (f := D.str) (xs := v1) (ix_ok (d := []) c5))) rfl))))) (fun h3 => (c_retR (es_call (E := (fun _ => E)) a0 hM.pass kn_name (hM.room hX (by decide)) (hX.gl lk_law_label_law_name) (ea2_d (ed_var 0 (hX.nm rfl) (hX.vs (vis_l lk_law_label_law_cell_here)) rfl) ea2_nil) trivial))))))))))
abbrev sp_label (K : PySem.W.Frag) : Sp := spG K (A := Int) (fun a => [.d (D.int a)]) (fun _ => True) (fun a => rsOf (fun z : (List Nat) => Res.v (D.str z)) (labelF a))
theorem ok_label {P : Program} {w : World} {K : PySem.W.Frag} {mg : Str → Option Value} {base : Heap} {f : Addr} {fd : FuncData} (F : Fun K "_law_label" "_law_label" s_law_label f fd) (kn_name : Kn P w K mg base "_law_name" 2 (sp_name K)) (kn_pick : Kn P w K mg base "_law_pick" 1 (sp_pick K)) : FnOk P w K mg base (L2.CX P w) 3 f fd ["_law_cell_here"] (sp_label K) :=
  def_okC (A := Int) F sc_law_label .stk (.inl rfl) (fun _ => rfl) (fun a => c_label a) (fun a X E e1 e2 e3 e4 e5 hX hM => by
    subst e1 e2 e3 e4 e5
    exact bd_label X E hX hM kn_name kn_pick a)
abbrev s_law_address : Stmt := top 44
abbrev nm_law_address : List Str := ["_law_cell_here", "_law_j"]
theorem sc_law_address : FnScope nm_law_address ["_law_cell_here"] (defScope s_law_address) := ⟨rfl, rfl, rfl, by decide +kernel, rfl, by decide +kernel, by decide +kernel⟩
theorem lk_law_address_law_cell_here : (defScope s_law_address).names.lookup ("_law_cell_here" : Str) = some .cell := by decide +kernel
theorem lk_law_address_law_pick : (defScope s_law_address).names.lookup ("_law_pick" : Str) = some .globalImplicit := by decide +kernel
theorem lk_law_address_range : (defScope s_law_address).names.lookup ("range" : Str) = some .globalImplicit := by decide +kernel
noncomputable def c_address (a0 : Int) : Co Unit Empty (List Nat) := chk ((((pickF a0 (27 : Int) (3 : Int))).IsOk) ∧ (-(2 ^ 62) ≤ ((1 : Int) + ((pickF a0 (27 : Int) (3 : Int)).get (0 : Int))) ∧ ((1 : Int) + ((pickF a0 (27 : Int) (3 : Int)).get (0 : Int))) < 2 ^ 62) ∧ (∀ y3 ∈ (rints 0 (((1 : Int) + ((pickF a0 (27 : Int) (3 : Int)).get (0 : Int)))).toNat), (((subF a0 y3)).IsOk) ∧ (((labelF ((subF a0 y3).get (0 : Int)))).IsOk)) ∧ ((rints 0 (((1 : Int) + ((pickF a0 (27 : Int) (3 : Int)).get (0 : Int)))).toNat).length < sizeLine) ∧ ((List.map (·.length) (List.map (fun y3 : Int => ((labelF ((subF a0 y3).get (0 : Int))).get [])) (rints 0 (((1 : Int) + ((pickF a0 (27 : Int) (3 : Int)).get (0 : Int)))).toNat))).sum + (List.map (fun y3 : Int => ((labelF ((subF a0 y3).get (0 : Int))).get [])) (rints 0 (((1 : Int) + ((pickF a0 (27 : Int) (3 : Int)).get (0 : Int)))).toNat)).length * ([46] : List Nat).length ≤ LMax)) (.ret (.ok (joinS ([46] : List Nat) (List.map (fun y3 : Int => ((labelF ((subF a0 y3).get (0 : Int))).get [])) (rints 0 (((1 : Int) + ((pickF a0 (27 : Int) (3 : Int)).get (0 : Int)))).toNat)))))
noncomputable def addressF (a0 : Int) : Out (List Nat) := (c_address a0).out .stk
theorem bd_address (X : Cx) (E : XK) (hX : XOk 3 nm_law_address (defScope s_law_address) X) (hM : XCm X E) (m_range : X.mg "range" = none) (kn_label : KnX X "_law_label" 3 (sp_label X.K)) (kn_pick : KnX X "_law_pick" 1 (sp_pick X.K)) (kn_sub : KnX X "_law_sub" 1 (sp_sub X.K)) (a0 : Int) : BC X E ([.d (D.int a0), .un] : List B) (defBody s_law_address) (fun s : Unit => List.replicate 2 B.un) (fun s : Empty => nomatch s) (fun z : (List Nat) => Res.v (D.str z)) (c_address a0) := by
  unfold c_address
  exact (c_chk (fun h11 => (have ⟨c1, c2, c8, c9, c10⟩ := h11; (c_ret (ed_join (ed_str ([46] : List Nat) (by decide +kernel) (by decide)) (EvO.el (eo_lc hM.calm hX.nd (lc_ok0 (Yt := Int) (τ := (List Nat)) (encY := D.int) (enc := D.str) (g := (gName 1)) (js := [1]) (own := [("_law_j", 1)]) (rints 0 (((1 : Int) + ((pickF a0 (27 : Int) (3 : Int)).get (0 : Int)))).toNat) (fun y3 : Int => ((labelF ((subF a0 y3).get (0 : Int))).get [])) (it_range1 (hX.gl lk_law_address_range) m_range (ed_op (od_add _ _) ed_int (ed_okS (z := D.int) (0 : Int) (fun E tk => (es_call (E := E) ((a0, (27 : Int), (3 : Int)) : Int × Int × Int) tk kn_pick (hM.room hX (by decide)) (hX.gl lk_law_address_law_pick) (ea2_d (ed_var 0 (hX.nm rfl) (hX.vs (vis_c lk_law_address_law_cell_here)) rfl) (ea2_d ed_int (ea2_d ed_int ea2_nil))) trivial)) (fun _ => rfl) c1)) c2) (blk_ok hX (by decide +kernel)) (fun _ _ _ _ _ => (pg_name (i := 1) hX.nd (hX.nm rfl) (blk_lc hX (loc_l (by decide +kernel))) (.inr (blk_lk hX (by decide +kernel))))) (by decide) c9 (fun y3 : Int => ([.d (D.int a0), .d (D.int y3)] : List B)) (fun y3 _ => (show TgD X.K (gName 1) [1] (wipeB ([.d (D.int a0), .un] : List B) [1]) (D.int y3) ([.d (D.int a0), .d (D.int y3)] : List B) from (tg_name 1))) (fun y3 hy4 _ _ _ _ _ => (have ⟨c6, c7⟩ := (c8 y3 hy4); (ed_okS (z := D.str) [] (fun E tk => (es_call (E := E) ((subF a0 y3).get (0 : Int)) tk kn_label (hM.room hX (by decide)) (blk_gl hX (by decide +kernel)) (ea2_d (ed_okS (z := D.int) (0 : Int) (fun E tk => (es_call (E := E) ((a0, y3) : Int × Int) tk kn_sub (hM.room hX (by decide)) (blk_gl hX (by decide +kernel)) (ea2_d (ed_var 0 (hX.nm rfl) (blk_vs hX (vis_c (by decide +kernel))) rfl) (ea2_d (ed_var 1 (hX.nm rfl) (blk_vs hX (vis_l (by decide +kernel))) rfl) ea2_nil)) trivial)) (fun _ => rfl) c6) ea2_nil) trivial)) (fun _ => rfl) c7)))))) c10) rfl))))
abbrev sp_address (K : PySem.W.Frag) : Sp := spG K (A := Int) (fun a => [.d (D.int a)]) (fun _ => True) (fun a => rsOf (fun z : (List Nat) => Res.v (D.str z)) (addressF a))
theorem ok_address {P : Program} {w : World} {K : PySem.W.Frag} {mg : Str → Option Value} {base : Heap} {f : Addr} {fd : FuncData} (F : Fun K "_law_address" "_law_address" s_law_address f fd) (m_range : mg "range" = none) (kn_label : Kn P w K mg base "_law_label" 3 (sp_label K)) (kn_pick : Kn P w K mg base "_law_pick" 1 (sp_pick K)) (kn_sub : Kn P w K mg base "_law_sub" 1 (sp_sub K)) : FnOk P w K mg base (L2.CX P w) 4 f fd ["_law_cell_here"] (sp_address K) :=
  def_okC (A := Int) F sc_law_address .stk (.inl rfl) (fun _ => rfl) (fun a => c_address a) (fun a X E e1 e2 e3 e4 e5 hX hM => by
    subst e1 e2 e3 e4 e5
    exact bd_address X E hX hM m_range kn_label kn_pick kn_sub a)
abbrev s_law_term : Stmt := top 45
abbrev nm_law_term : List Str := ["_law_cell_here", "_law_first", "_law_sign", "_law_way", "_law_far", "_law_names", "_law_j"]
theorem sc_law_term : FnScope nm_law_term ["_law_cell_here", "_law_first"] (defScope s_law_term) := ⟨rfl, rfl, rfl, by decide +kernel, rfl, by decide +kernel, by decide +kernel⟩
theorem lk_law_term_int : (defScope s_law_term).names.lookup ("int" : Str) = some .globalImplicit := by decide +kernel
theorem lk_law_term_law_cell_here : (defScope s_law_term).names.lookup ("_law_cell_here" : Str) = some .cell := by decide +kernel
theorem lk_law_term_law_far : (defScope s_law_term).names.lookup ("_law_far" : Str) = some .local := by decide +kernel
theorem lk_law_term_law_first : (defScope s_law_term).names.lookup ("_law_first" : Str) = some .local := by decide +kernel
theorem lk_law_term_law_names : (defScope s_law_term).names.lookup ("_law_names" : Str) = some .local := by decide +kernel
theorem lk_law_term_law_number : (defScope s_law_term).names.lookup ("_law_number" : Str) = some .globalImplicit := by decide +kernel
theorem lk_law_term_law_pick : (defScope s_law_term).names.lookup ("_law_pick" : Str) = some .globalImplicit := by decide +kernel
theorem lk_law_term_law_sign : (defScope s_law_term).names.lookup ("_law_sign" : Str) = some .local := by decide +kernel
theorem lk_law_term_law_way : (defScope s_law_term).names.lookup ("_law_way" : Str) = some .local := by decide +kernel
theorem lk_law_term_range : (defScope s_law_term).names.lookup ("range" : Str) = some .globalImplicit := by decide +kernel
theorem lk_law_term_tuple : (defScope s_law_term).names.lookup ("tuple" : Str) = some .globalImplicit := by decide +kernel
noncomputable def c_term (a0 : Int) (a1 : Bool) : Co Unit Empty (Int × (List Nat) × Thing) := chk ((((pickF a0 (1 : Int) (2 : Int))).IsOk) ∧ (-((([(1 : Int), ((1 : Int) - ((2 : Int) * ((pickF a0 (1 : Int) (2 : Int)).get (0 : Int))))] : List Int)).length : Int) ≤ (if (!a1) = true then 1 else 0 : Int) ∧ (if (!a1) = true then 1 else 0 : Int) < ((([(1 : Int), ((1 : Int) - ((2 : Int) * ((pickF a0 (1 : Int) (2 : Int)).get (0 : Int))))] : List Int)).length : Int))) (bnd ((ix ([(1 : Int), ((1 : Int) - ((2 : Int) * ((pickF a0 (1 : Int) (2 : Int)).get (0 : Int))))] : List Int) (if (!a1) = true then 1 else 0 : Int) (0 : Int)) : Int) fun v1 => bndO ((pickF a0 (2 : Int) (4 : Int)) : Out Int) fun v4 => if (decide (v4 = (0 : Int))) = true then Co.up (chk ((((pickF a0 (3 : Int) (4 : Int))).IsOk) ∧ (-((([(10 : Int), (1000 : Int), ((10 : Int) ^ ((10 : Int)).toNat), ((10 : Int) ^ ((20 : Int)).toNat)] : List Int)).length : Int) ≤ ((pickF a0 (3 : Int) (4 : Int)).get (0 : Int)) ∧ ((pickF a0 (3 : Int) (4 : Int)).get (0 : Int)) < ((([(10 : Int), (1000 : Int), ((10 : Int) ^ ((10 : Int)).toNat), ((10 : Int) ^ ((20 : Int)).toNat)] : List Int)).length : Int))) (bnd ((ix ([(10 : Int), (1000 : Int), ((10 : Int) ^ ((10 : Int)).toNat), ((10 : Int) ^ ((20 : Int)).toNat)] : List Int) ((pickF a0 (3 : Int) (4 : Int)).get (0 : Int)) (0 : Int)) : Int) fun v6 => chk ((((pickF a0 (4 : Int) (3 : Int))).IsOk) ∧ (((numberF a0 v6)).IsOk) ∧ (-((([((numberF a0 v6).get (0 : Int)), (0 : Int), (v6 - (1 : Int))] : List Int)).length : Int) ≤ ((pickF a0 (4 : Int) (3 : Int)).get (0 : Int)) ∧ ((pickF a0 (4 : Int) (3 : Int)).get (0 : Int)) < ((([((numberF a0 v6).get (0 : Int)), (0 : Int), (v6 - (1 : Int))] : List Int)).length : Int))) (.ret (.ok ((v1, ([110, 117, 109, 98, 101, 114] : List Nat), (ix ([((numberF a0 v6).get (0 : Int)), (0 : Int), (v6 - (1 : Int))] : List Int) ((pickF a0 (4 : Int) (3 : Int)).get (0 : Int)) (0 : Int))).1, (v1, ([110, 117, 109, 98, 101, 114] : List Nat), (ix ([((numberF a0 v6).get (0 : Int)), (0 : Int), (v6 - (1 : Int))] : List Int) ((pickF a0 (4 : Int) (3 : Int)).get (0 : Int)) (0 : Int))).2.1, (Thing.num (v1, ([110, 117, 109, 98, 101, 114] : List Nat), (ix ([((numberF a0 v6).get (0 : Int)), (0 : Int), (v6 - (1 : Int))] : List Int) ((pickF a0 (4 : Int) (3 : Int)).get (0 : Int)) (0 : Int))).2.2)))))) else chk ((((pickF a0 (5 : Int) (4 : Int))).IsOk) ∧ (-(2 ^ 62) ≤ ((1 : Int) + ((pickF a0 (5 : Int) (4 : Int)).get (0 : Int))) ∧ ((1 : Int) + ((pickF a0 (5 : Int) (4 : Int)).get (0 : Int))) < 2 ^ 62) ∧ (∀ y17 ∈ (rints 0 (((1 : Int) + ((pickF a0 (5 : Int) (4 : Int)).get (0 : Int)))).toNat), (((subF a0 y17)).IsOk) ∧ (((labelF ((subF a0 y17).get (0 : Int)))).IsOk)) ∧ ((rints 0 (((1 : Int) + ((pickF a0 (5 : Int) (4 : Int)).get (0 : Int)))).toNat).length < sizeLine)) (bnd ((List.map (fun y17 : Int => ((labelF ((subF a0 y17).get (0 : Int))).get [])) (rints 0 (((1 : Int) + ((pickF a0 (5 : Int) (4 : Int)).get (0 : Int)))).toNat)) : (List (List Nat))) fun v14 => chk ((-((([([112, 97, 116, 104] : List Nat), ([99, 97, 108, 108] : List Nat)] : List (List Nat))).length : Int) ≤ (if (decide (v4 = (3 : Int))) = true then 1 else 0 : Int) ∧ (if (decide (v4 = (3 : Int))) = true then 1 else 0 : Int) < ((([([112, 97, 116, 104] : List Nat), ([99, 97, 108, 108] : List Nat)] : List (List Nat))).length : Int))) (.ret (.ok ((v1, (ix ([([112, 97, 116, 104] : List Nat), ([99, 97, 108, 108] : List Nat)] : List (List Nat)) (if (decide (v4 = (3 : Int))) = true then 1 else 0 : Int) []), v14).1, (v1, (ix ([([112, 97, 116, 104] : List Nat), ([99, 97, 108, 108] : List Nat)] : List (List Nat)) (if (decide (v4 = (3 : Int))) = true then 1 else 0 : Int) []), v14).2.1, (Thing.path (v1, (ix ([([112, 97, 116, 104] : List Nat), ([99, 97, 108, 108] : List Nat)] : List (List Nat)) (if (decide (v4 = (3 : Int))) = true then 1 else 0 : Int) []), v14).2.2))))))
noncomputable def termF (a0 : Int) (a1 : Bool) : Out (Int × (List Nat) × Thing) := (c_term a0 a1).out .stk
theorem bd_term (X : Cx) (E : XK) (hX : XOk 3 nm_law_term (defScope s_law_term) X) (hM : XCm X E) (m_int : X.mg "int" = none) (m_range : X.mg "range" = none) (m_tuple : X.mg "tuple" = none) (kn_label : KnX X "_law_label" 3 (sp_label X.K)) (kn_number : KnX X "_law_number" 1 (sp_number X.K)) (kn_pick : KnX X "_law_pick" 1 (sp_pick X.K)) (kn_sub : KnX X "_law_sub" 1 (sp_sub X.K)) (a0 : Int) (a1 : Bool) : BC X E ([.d (D.int a0), .d (D.bl a1), .un, .un, .un, .un, .un] : List B) (defBody s_law_term) (fun s : Unit => List.replicate 7 B.un) (fun s : Empty => nomatch s) (fun z : (Int × (List Nat) × Thing) => Res.v (D.tup [(D.int z.1), (D.str z.2.1), (encThing z.2.2)])) (c_term a0 a1) := by
  unfold c_term
  exact (c_chk (fun h27 => (have ⟨c2, c3⟩ := h27; (c_set 2 D.int hX rfl (loc_l lk_law_term_law_sign) (ed_ixL (EvO.el (eo_lst (ea_cons ed_int (ea_cons (ed_op (od_sub _ _) ed_int (ed_op (od_mul _ _ (.inl (by decide))) ed_int (ed_okS (z := D.int) (0 : Int) (fun E tk => (es_call (E := E) ((a0, (1 : Int), (2 : Int)) : Int × Int × Int) tk kn_pick (hM.room hX (by decide)) (hX.gl lk_law_term_law_pick) (ea2_d (ed_var 0 (hX.nm rfl) (hX.vs (vis_c lk_law_term_law_cell_here)) rfl) (ea2_d ed_int (ea2_d ed_int ea2_nil))) trivial)) (fun _ => rfl) c2))) ea_nil)) (by show 2 ≤ sizeLine; decide))) (ed_intB (hX.gl lk_law_term_int) m_int (ed_not (ed_var 1 (hX.nm rfl) (hX.vs (vis_l lk_law_term_law_first)) rfl))) (atI_map (f := D.int) (xs := ([(1 : Int), ((1 : Int) - ((2 : Int) * ((pickF a0 (1 : Int) (2 : Int)).get (0 : Int))))] : List Int)) (ix_ok (d := (0 : Int)) c3))) (fun v1 hv1 => (show BC X E ([.d (D.int a0), .d (D.bl a1), .d (D.int v1), .un, .un, .un, .un] : List B) _ _ _ _ _ from (c_setR 3 D.int hX rfl (loc_l lk_law_term_law_way) (es_call (E := (fun _ => E)) ((a0, (2 : Int), (4 : Int)) : Int × Int × Int) hM.pass kn_pick (hM.room hX (by decide)) (hX.gl lk_law_term_law_pick) (ea2_d (ed_var 0 (hX.nm rfl) (hX.vs (vis_c lk_law_term_law_cell_here)) rfl) (ea2_d ed_int (ea2_d ed_int ea2_nil))) trivial) (fun v4 => (show BC X E ([.d (D.int a0), .d (D.bl a1), .d (D.int v1), .d (D.int v4), .un, .un, .un] : List B) _ _ _ _ _ from (c_ifr (et_cmp (od_eqI _ _) (ed_var 3 (hX.nm rfl) (hX.vs (vis_l lk_law_term_law_way)) rfl) ed_int) (fun h5 => (c_chk (fun h13 => (have ⟨c7, c8⟩ := h13; (c_set 4 D.int hX rfl (loc_l lk_law_term_law_far) (ed_ixL (EvO.el (eo_lst (ea_cons ed_int (ea_cons ed_int (ea_cons (ed_op (od_pow _ _ (show CPow _ _ from ⟨by decide, by decide, by decide⟩)) ed_int ed_int) (ea_cons (ed_op (od_pow _ _ (show CPow _ _ from ⟨by decide, by decide, by decide⟩)) ed_int ed_int) ea_nil)))) (by show 4 ≤ sizeLine; decide))) (ed_okS (z := D.int) (0 : Int) (fun E tk => (es_call (E := E) ((a0, (3 : Int), (4 : Int)) : Int × Int × Int) tk kn_pick (hM.room hX (by decide)) (hX.gl lk_law_term_law_pick) (ea2_d (ed_var 0 (hX.nm rfl) (hX.vs (vis_c lk_law_term_law_cell_here)) rfl) (ea2_d ed_int (ea2_d ed_int ea2_nil))) trivial)) (fun _ => rfl) c7) (atI_map (f := D.int) (xs := ([(10 : Int), (1000 : Int), ((10 : Int) ^ ((10 : Int)).toNat), ((10 : Int) ^ ((20 : Int)).toNat)] : List Int)) (ix_ok (d := (0 : Int)) c8))) (fun v6 hv6 => (show BC X E ([.d (D.int a0), .d (D.bl a1), .d (D.int v1), .d (D.int v4), .d (D.int v6), .un, .un] : List B) _ _ _ _ _ from (c_chk (fun h12 => (have ⟨c9, c10, c11⟩ := h12; (c_ret (ed_tup (ea_cons (ed_var 2 (hX.nm rfl) (hX.vs (vis_l lk_law_term_law_sign)) rfl) (ea_cons (ed_str ([110, 117, 109, 98, 101, 114] : List Nat) (by decide +kernel) (by decide)) (ea_cons (ed_ixL (EvO.el (eo_lst (ea_cons (ed_okS (z := D.int) (0 : Int) (fun E tk => (es_call (E := E) ((a0, v6) : Int × Int) tk kn_number (hM.room hX (by decide)) (hX.gl lk_law_term_law_number) (ea2_d (ed_var 0 (hX.nm rfl) (hX.vs (vis_c lk_law_term_law_cell_here)) rfl) (ea2_d (ed_var 4 (hX.nm rfl) (hX.vs (vis_l lk_law_term_law_far)) rfl) ea2_nil)) trivial)) (fun _ => rfl) c10) (ea_cons ed_int (ea_cons (ed_op (od_sub _ _) (ed_var 4 (hX.nm rfl) (hX.vs (vis_l lk_law_term_law_far)) rfl) ed_int) ea_nil))) (by show 3 ≤ sizeLine; decide))) (ed_okS (z := D.int) (0 : Int) (fun E tk => (es_call (E := E) ((a0, (4 : Int), (3 : Int)) : Int × Int × Int) tk kn_pick (hM.room hX (by decide)) (hX.gl lk_law_term_law_pick) (ea2_d (ed_var 0 (hX.nm rfl) (hX.vs (vis_c lk_law_term_law_cell_here)) rfl) (ea2_d ed_int (ea2_d ed_int ea2_nil))) trivial)) (fun _ => rfl) c9) (atI_map (f := D.int) (xs := ([((numberF a0 v6).get (0 : Int)), (0 : Int), (v6 - (1 : Int))] : List Int)) (ix_ok (d := (0 : Int)) c11))) ea_nil))) (by show 3 ≤ sizeLine; decide)) rfl))))))))))) (fun h5 => (c_chk (fun h26 => (have ⟨c15, c16, c22, c23⟩ := h26; (c_setLc 5 (fun z : (List (List Nat)) => OO.lst (List.map D.str z)) hM hX rfl lk_law_term_law_names (sw_yes hX lk_law_term_law_names (by decide +kernel)) (lc_ok0 (Yt := Int) (τ := (List Nat)) (encY := D.int) (enc := D.str) (g := (gName 6)) (js := [6]) (own := [("_law_j", 6)]) (rints 0 (((1 : Int) + ((pickF a0 (5 : Int) (4 : Int)).get (0 : Int)))).toNat) (fun y17 : Int => ((labelF ((subF a0 y17).get (0 : Int))).get [])) (it_range1 (hX.gl lk_law_term_range) m_range (ed_op (od_add _ _) ed_int (ed_okS (z := D.int) (0 : Int) (fun E tk => (es_call (E := E) ((a0, (5 : Int), (4 : Int)) : Int × Int × Int) tk kn_pick (hM.room hX (by decide)) (hX.gl lk_law_term_law_pick) (ea2_d (ed_var 0 (hX.nm rfl) (hX.vs (vis_c lk_law_term_law_cell_here)) rfl) (ea2_d ed_int (ea2_d ed_int ea2_nil))) trivial)) (fun _ => rfl) c15)) c16) (blk_ok hX (by decide +kernel)) (fun _ _ _ _ _ => (pg_name (i := 6) hX.nd (hX.nm rfl) (blk_lc hX (loc_l (by decide +kernel))) (.inr (blk_lk hX (by decide +kernel))))) (by decide) c23 (fun y17 : Int => ([.d (D.int a0), .d (D.bl a1), .d (D.int v1), .d (D.int v4), .un, .un, .d (D.int y17)] : List B)) (fun y17 _ => (show TgD X.K (gName 6) [6] (wipeB ([.d (D.int a0), .d (D.bl a1), .d (D.int v1), .d (D.int v4), .un, .un, .un] : List B) [6]) (D.int y17) ([.d (D.int a0), .d (D.bl a1), .d (D.int v1), .d (D.int v4), .un, .un, .d (D.int y17)] : List B) from (tg_name 6))) (fun y17 hy18 _ _ _ _ _ => (have ⟨c20, c21⟩ := (c22 y17 hy18); (ed_okS (z := D.str) [] (fun E tk => (es_call (E := E) ((subF a0 y17).get (0 : Int)) tk kn_label (hM.room hX (by decide)) (blk_gl hX (by decide +kernel)) (ea2_d (ed_okS (z := D.int) (0 : Int) (fun E tk => (es_call (E := E) ((a0, y17) : Int × Int) tk kn_sub (hM.room hX (by decide)) (blk_gl hX (by decide +kernel)) (ea2_d (ed_var 0 (hX.nm rfl) (blk_vs hX (vis_c (by decide +kernel))) rfl) (ea2_d (ed_var 6 (hX.nm rfl) (blk_vs hX (vis_l (by decide +kernel))) rfl) ea2_nil)) trivial)) (fun _ => rfl) c20) ea2_nil) trivial)) (fun _ => rfl) c21)))) (fun v14 hv14 => (show BC X E ([.d (D.int a0), .d (D.bl a1), .d (D.int v1), .d (D.int v4), .un, .own (.lst (List.map D.str v14)), .un] : List B) _ _ _ _ _ from (c_chk (fun h25 => (have c24 := h25; (c_ret (ed_tup (ea_cons (ed_var 2 (hX.nm rfl) (hX.vs (vis_l lk_law_term_law_sign)) rfl) (ea_cons (ed_ixL (EvO.el (eo_lst (ea_cons (ed_str ([112, 97, 116, 104] : List Nat) (by decide +kernel) (by decide)) (ea_cons (ed_str ([99, 97, 108, 108] : List Nat) (by decide +kernel) (by decide)) ea_nil)) (by show 2 ≤ sizeLine; decide))) (ed_intB (hX.gl lk_law_term_int) m_int (ed_cmp (od_eqI _ _) (ed_var 3 (hX.nm rfl) (hX.vs (vis_l lk_law_term_law_way)) rfl) ed_int)) (atI_map (f := D.str) (xs := ([([112, 97, 116, 104] : List Nat), ([99, 97, 108, 108] : List Nat)] : List (List Nat))) (ix_ok (d := []) c24))) (ea_cons (ed_tupM (hX.gl lk_law_term_tuple) m_tuple (el_own 5 (hX.nm rfl) (hX.vs (vis_l lk_law_term_law_names)) rfl)) ea_nil))) (by show 3 ≤ sizeLine; decide)) rfl)))))))))))))))))))))
abbrev sp_term (K : PySem.W.Frag) : Sp := spG K (A := Int × Bool) (fun a => [.d (D.int a.1), .d (D.bl a.2)]) (fun _ => True) (fun a => rsOf (fun z : (Int × (List Nat) × Thing) => Res.v (D.tup [(D.int z.1), (D.str z.2.1), (encThing z.2.2)])) (termF a.1 a.2))
theorem ok_term {P : Program} {w : World} {K : PySem.W.Frag} {mg : Str → Option Value} {base : Heap} {f : Addr} {fd : FuncData} (F : Fun K "_law_term" "_law_term" s_law_term f fd) (m_int : mg "int" = none) (m_range : mg "range" = none) (m_tuple : mg "tuple" = none) (kn_label : Kn P w K mg base "_law_label" 3 (sp_label K)) (kn_number : Kn P w K mg base "_law_number" 1 (sp_number K)) (kn_pick : Kn P w K mg base "_law_pick" 1 (sp_pick K)) (kn_sub : Kn P w K mg base "_law_sub" 1 (sp_sub K)) : FnOk P w K mg base (L2.CX P w) 4 f fd ["_law_cell_here", "_law_first"] (sp_term K) :=
  def_okC (A := Int × Bool) F sc_law_term .stk (.inl rfl) (fun _ => rfl) (fun a => c_term a.1 a.2) (fun a X E e1 e2 e3 e4 e5 hX hM => by
    subst e1 e2 e3 e4 e5
    exact bd_term X E hX hM m_int m_range m_tuple kn_label kn_number kn_pick kn_sub a.1 a.2)
abbrev s_law_terms : Stmt := top 46
abbrev nm_law_terms : List Str := ["_law_cell_here", "_law_k"]
theorem sc_law_terms : FnScope nm_law_terms ["_law_cell_here"] (defScope s_law_terms) := ⟨rfl, rfl, rfl, by decide +kernel, rfl, by decide +kernel, by decide +kernel⟩
theorem lk_law_terms_law_cell_here : (defScope s_law_terms).names.lookup ("_law_cell_here" : Str) = some .cell := by decide +kernel
theorem lk_law_terms_law_pick : (defScope s_law_terms).names.lookup ("_law_pick" : Str) = some .globalImplicit := by decide +kernel
theorem lk_law_terms_range : (defScope s_law_terms).names.lookup ("range" : Str) = some .globalImplicit := by decide +kernel
noncomputable def c_terms (a0 : Int) : Co Unit Empty (List (Int × (List Nat) × Thing)) := chk ((((pickF a0 (0 : Int) (6 : Int))).IsOk) ∧ (-(2 ^ 62) ≤ ((1 : Int) + ((pickF a0 (0 : Int) (6 : Int)).get (0 : Int))) ∧ ((1 : Int) + ((pickF a0 (0 : Int) (6 : Int)).get (0 : Int))) < 2 ^ 62) ∧ (∀ y3 ∈ (rints 0 (((1 : Int) + ((pickF a0 (0 : Int) (6 : Int)).get (0 : Int)))).toNat), (((subF a0 ((1 : Int) + ((5 : Int) * y3)))).IsOk) ∧ (((termF ((subF a0 ((1 : Int) + ((5 : Int) * y3))).get (0 : Int)) (decide (y3 = (0 : Int))))).IsOk)) ∧ ((rints 0 (((1 : Int) + ((pickF a0 (0 : Int) (6 : Int)).get (0 : Int)))).toNat).length < sizeLine)) (.ret (.ok (List.map (fun y3 : Int => ((termF ((subF a0 ((1 : Int) + ((5 : Int) * y3))).get (0 : Int)) (decide (y3 = (0 : Int)))).get ((0 : Int), [], (Thing.num 0)))) (rints 0 (((1 : Int) + ((pickF a0 (0 : Int) (6 : Int)).get (0 : Int)))).toNat))))
noncomputable def termsF (a0 : Int) : Out (List (Int × (List Nat) × Thing)) := (c_terms a0).out .stk
theorem bd_terms (X : Cx) (E : XK) (hX : XOk 4 nm_law_terms (defScope s_law_terms) X) (hM : XCm X E) (m_range : X.mg "range" = none) (kn_pick : KnX X "_law_pick" 1 (sp_pick X.K)) (kn_sub : KnX X "_law_sub" 1 (sp_sub X.K)) (kn_term : KnX X "_law_term" 4 (sp_term X.K)) (a0 : Int) : BC X E ([.d (D.int a0), .un] : List B) (defBody s_law_terms) (fun s : Unit => List.replicate 2 B.un) (fun s : Empty => nomatch s) (fun z : (List (Int × (List Nat) × Thing)) => Res.v (D.lst (List.map (fun z : (Int × (List Nat) × Thing) => (D.tup [(D.int z.1), (D.str z.2.1), (encThing z.2.2)])) z))) (c_terms a0) := by
  unfold c_terms
  exact (c_chk (fun h10 => (have ⟨c1, c2, c8, c9⟩ := h10; (c_ret (EvO.frz (eo_lc hM.calm hX.nd (lc_ok0 (Yt := Int) (τ := (Int × (List Nat) × Thing)) (encY := D.int) (enc := (fun z : (Int × (List Nat) × Thing) => (D.tup [(D.int z.1), (D.str z.2.1), (encThing z.2.2)]))) (g := (gName 1)) (js := [1]) (own := [("_law_k", 1)]) (rints 0 (((1 : Int) + ((pickF a0 (0 : Int) (6 : Int)).get (0 : Int)))).toNat) (fun y3 : Int => ((termF ((subF a0 ((1 : Int) + ((5 : Int) * y3))).get (0 : Int)) (decide (y3 = (0 : Int)))).get ((0 : Int), [], (Thing.num 0)))) (it_range1 (hX.gl lk_law_terms_range) m_range (ed_op (od_add _ _) ed_int (ed_okS (z := D.int) (0 : Int) (fun E tk => (es_call (E := E) ((a0, (0 : Int), (6 : Int)) : Int × Int × Int) tk kn_pick (hM.room hX (by decide)) (hX.gl lk_law_terms_law_pick) (ea2_d (ed_var 0 (hX.nm rfl) (hX.vs (vis_c lk_law_terms_law_cell_here)) rfl) (ea2_d ed_int (ea2_d ed_int ea2_nil))) trivial)) (fun _ => rfl) c1)) c2) (blk_ok hX (by decide +kernel)) (fun _ _ _ _ _ => (pg_name (i := 1) hX.nd (hX.nm rfl) (blk_lc hX (loc_l (by decide +kernel))) (.inr (blk_lk hX (by decide +kernel))))) (by decide) c9 (fun y3 : Int => ([.d (D.int a0), .d (D.int y3)] : List B)) (fun y3 _ => (show TgD X.K (gName 1) [1] (wipeB ([.d (D.int a0), .un] : List B) [1]) (D.int y3) ([.d (D.int a0), .d (D.int y3)] : List B) from (tg_name 1))) (fun y3 hy4 _ _ _ _ _ => (have ⟨c6, c7⟩ := (c8 y3 hy4); (ed_okS (z := (fun z : (Int × (List Nat) × Thing) => (D.tup [(D.int z.1), (D.str z.2.1), (encThing z.2.2)]))) ((0 : Int), [], (Thing.num 0)) (fun E tk => (es_call (E := E) ((((subF a0 ((1 : Int) + ((5 : Int) * y3))).get (0 : Int)), (decide (y3 = (0 : Int)))) : Int × Bool) tk kn_term (hM.room hX (by decide)) (blk_gl hX (by decide +kernel)) (ea2_d (ed_okS (z := D.int) (0 : Int) (fun E tk => (es_call (E := E) ((a0, ((1 : Int) + ((5 : Int) * y3))) : Int × Int) tk kn_sub (hM.room hX (by decide)) (blk_gl hX (by decide +kernel)) (ea2_d (ed_var 0 (hX.nm rfl) (blk_vs hX (vis_c (by decide +kernel))) rfl) (ea2_d (ed_op (od_add _ _) ed_int (ed_op (od_mul _ _ (.inl (by decide))) ed_int (ed_var 1 (hX.nm rfl) (blk_vs hX (vis_l (by decide +kernel))) rfl))) ea2_nil)) trivial)) (fun _ => rfl) c6) (ea2_d (ed_cmp (od_eqI _ _) (ed_var 1 (hX.nm rfl) (blk_vs hX (vis_l (by decide +kernel))) rfl) ed_int) ea2_nil)) trivial)) (fun _ => rfl) c7)))))) rfl))))
abbrev sp_terms (K : PySem.W.Frag) : Sp := spG K (A := Int) (fun a => [.d (D.int a)]) (fun _ => True) (fun a => rsOf (fun z : (List (Int × (List Nat) × Thing)) => Res.v (D.lst (List.map (fun z : (Int × (List Nat) × Thing) => (D.tup [(D.int z.1), (D.str z.2.1), (encThing z.2.2)])) z))) (termsF a))
theorem ok_terms {P : Program} {w : World} {K : PySem.W.Frag} {mg : Str → Option Value} {base : Heap} {f : Addr} {fd : FuncData} (F : Fun K "_law_terms" "_law_terms" s_law_terms f fd) (m_range : mg "range" = none) (kn_pick : Kn P w K mg base "_law_pick" 1 (sp_pick K)) (kn_sub : Kn P w K mg base "_law_sub" 1 (sp_sub K)) (kn_term : Kn P w K mg base "_law_term" 4 (sp_term K)) : FnOk P w K mg base (L2.CX P w) 5 f fd ["_law_cell_here"] (sp_terms K) :=
  def_okC (A := Int) F sc_law_terms .stk (.inl rfl) (fun _ => rfl) (fun a => c_terms a) (fun a X E e1 e2 e3 e4 e5 hX hM => by
    subst e1 e2 e3 e4 e5
    exact bd_terms X E hX hM m_range kn_pick kn_sub kn_term a)
abbrev s_law_word : Stmt := top 47
abbrev nm_law_word : List Str := ["_law_term_here", "_law_sign", "_law_sort", "_law_thing"]
theorem sc_law_word : FnScope nm_law_word ["_law_term_here"] (defScope s_law_word) := ⟨rfl, rfl, rfl, by decide +kernel, rfl, by decide +kernel, by decide +kernel⟩
theorem lk_law_word_int : (defScope s_law_word).names.lookup ("int" : Str) = some .globalImplicit := by decide +kernel
theorem lk_law_word_law_sign : (defScope s_law_word).names.lookup ("_law_sign" : Str) = some .local := by decide +kernel
theorem lk_law_word_law_sort : (defScope s_law_word).names.lookup ("_law_sort" : Str) = some .local := by decide +kernel
theorem lk_law_word_law_term_here : (defScope s_law_word).names.lookup ("_law_term_here" : Str) = some .local := by decide +kernel
theorem lk_law_word_law_thing : (defScope s_law_word).names.lookup ("_law_thing" : Str) = some .local := by decide +kernel
theorem lk_law_word_str : (defScope s_law_word).names.lookup ("str" : Str) = some .globalImplicit := by decide +kernel
noncomputable def c_word (a0 : (Int × (List Nat) × Thing)) : Co Unit Empty (List Nat) := bnd (a0 : (Int × (List Nat) × Thing)) fun v1 => if (decide (v1.2.1 = ([110, 117, 109, 98, 101, 114] : List Nat))) = true then Co.up (chk (((Thing.is_num v1.2.2) = true) ∧ (((Thing.as_num v1.2.2)).natAbs.log2 < 1920)) (.ret (.ok (strI (Thing.as_num v1.2.2))))) else chk (((Thing.is_path v1.2.2) = true) ∧ ((List.map (·.length) (Thing.as_path v1.2.2)).sum + (Thing.as_path v1.2.2).length * ([46] : List Nat).length ≤ LMax) ∧ (0 ≤ (if (decide (v1.2.1 = ([99, 97, 108, 108] : List Nat))) = true then 1 else 0 : Int)) ∧ ((if (decide (v1.2.1 = ([99, 97, 108, 108] : List Nat))) = true then 1 else 0 : Int) ≤ 1000) ∧ (([40, 41] : List Nat).length ≤ 10000) ∧ ((joinS ([46] : List Nat) (Thing.as_path v1.2.2)).length + (List.replicate ((if (decide (v1.2.1 = ([99, 97, 108, 108] : List Nat))) = true then 1 else 0 : Int)).toNat ([40, 41] : List Nat)).flatten.length ≤ LMax)) (.ret (.ok ((joinS ([46] : List Nat) (Thing.as_path v1.2.2)) ++ (List.replicate ((if (decide (v1.2.1 = ([99, 97, 108, 108] : List Nat))) = true then 1 else 0 : Int)).toNat ([40, 41] : List Nat)).flatten)))
noncomputable def wordF (a0 : (Int × (List Nat) × Thing)) : Out (List Nat) := (c_word a0).out .stk
theorem bd_word (X : Cx) (E : XK) (hX : XOk 0 nm_law_word (defScope s_law_word) X) (hM : XCm X E) (m_int : X.mg "int" = none) (m_str : X.mg "str" = none) (a0 : (Int × (List Nat) × Thing)) : BC X E ([.d (D.tup [(D.int a0.1), (D.str a0.2.1), (encThing a0.2.2)]), .un, .un, .un] : List B) (defBody s_law_word) (fun s : Unit => List.replicate 4 B.un) (fun s : Empty => nomatch s) (fun z : (List Nat) => Res.v (D.str z)) (c_word a0) := by
  unfold c_word
  exact (c_setT (g := (gTup X.K 3 (gCons (gName 1) (gCons (gName 2) (gCons (gName 3) gNil))))) (js := [1, 2, 3]) (fun z : (Int × (List Nat) × Thing) => (D.tup [(D.int z.1), (D.str z.2.1), (encThing z.2.2)])) (fun v1 : (Int × (List Nat) × Thing) => ([.d (D.tup [(D.int a0.1), (D.str a0.2.1), (encThing a0.2.2)]), .d (D.int v1.1), .d (D.str v1.2.1), .d (encThing v1.2.2)] : List B)) (pg_tup hM.calm (pgs_cons (pg_name (i := 1) hX.nd (hX.nm rfl) (hX.lc (loc_l lk_law_word_law_sign)) (.inl (hX.fn _))) (pgs_cons (pg_name (i := 2) hX.nd (hX.nm rfl) (hX.lc (loc_l lk_law_word_law_sort)) (.inl (hX.fn _))) (pgs_cons (pg_name (i := 3) hX.nd (hX.nm rfl) (hX.lc (loc_l lk_law_word_law_thing)) (.inl (hX.fn _))) pgs_nil)))) (fun v1 => (tg_tup (tgs_cons 1 (tgs_cons 2 (tgs_cons 3 tgs_nil))) rfl)) (ed_var 0 (hX.nm rfl) (hX.vs (vis_l lk_law_word_law_term_here)) rfl) (fun v1 hv1 => (c_ifr (et_cmp (od_eqS _ _) (ed_var 2 (hX.nm rfl) (hX.vs (vis_l lk_law_word_law_sort)) rfl) (ed_str ([110, 117, 109, 98, 101, 114] : List Nat) (by decide +kernel) (by decide))) (fun h2 => (c_chk (fun h5 => (have ⟨c3, c4⟩ := h5; (c_ret (ed_strI (hX.gl lk_law_word_str) m_str (ed_cast (Thing.num_ok c3) (ed_var 3 (hX.nm rfl) (hX.vs (vis_l lk_law_word_law_thing)) rfl)) c4) rfl))))) (fun h2 => (c_chk (fun h12 => (have ⟨c6, c7, c8, c9, c10, c11⟩ := h12; (c_ret (ed_op (od_addS _ _ c11) (ed_joinT (ed_str ([46] : List Nat) (by decide +kernel) (by decide)) (ed_cast (Thing.path_ok c6) (ed_var 3 (hX.nm rfl) (hX.vs (vis_l lk_law_word_law_thing)) rfl)) c7) (ed_op (od_mulS c8 c9 c10) (ed_str ([40, 41] : List Nat) (by decide +kernel) (by decide)) (ed_intB (hX.gl lk_law_word_int) m_int (ed_cmp (od_eqS _ _) (ed_var 2 (hX.nm rfl) (hX.vs (vis_l lk_law_word_law_sort)) rfl) (ed_str ([99, 97, 108, 108] : List Nat) (by decide +kernel) (by decide)))))) rfl))))))))
abbrev sp_word (K : PySem.W.Frag) : Sp := spG K (A := (Int × (List Nat) × Thing)) (fun a => [.d (D.tup [(D.int a.1), (D.str a.2.1), (encThing a.2.2)])]) (fun _ => True) (fun a => rsOf (fun z : (List Nat) => Res.v (D.str z)) (wordF a))
theorem ok_word {P : Program} {w : World} {K : PySem.W.Frag} {mg : Str → Option Value} {base : Heap} {f : Addr} {fd : FuncData} (F : Fun K "_law_word" "_law_word" s_law_word f fd) (m_int : mg "int" = none) (m_str : mg "str" = none) : FnOk P w K mg base (L2.CX P w) 1 f fd ["_law_term_here"] (sp_word K) :=
  def_okC (A := (Int × (List Nat) × Thing)) F sc_law_word .stk (.inl rfl) (fun _ => rfl) (fun a => c_word a) (fun a X E e1 e2 e3 e4 e5 hX hM => by
    subst e1 e2 e3 e4 e5
    exact bd_word X E hX hM m_int m_str a)
abbrev s_law_text : Stmt := top 48
abbrev nm_law_text : List Str := ["_law_terms_here", "_law_text_here", "_law_term_here"]
theorem sc_law_text : FnScope nm_law_text ["_law_terms_here"] (defScope s_law_text) := ⟨rfl, rfl, rfl, by decide +kernel, rfl, by decide +kernel, by decide +kernel⟩
theorem lk_law_text_int : (defScope s_law_text).names.lookup ("int" : Str) = some .globalImplicit := by decide +kernel
theorem lk_law_text_law_term_here : (defScope s_law_text).names.lookup ("_law_term_here" : Str) = some .local := by decide +kernel
theorem lk_law_text_law_terms_here : (defScope s_law_text).names.lookup ("_law_terms_here" : Str) = some .local := by decide +kernel
theorem lk_law_text_law_text_here : (defScope s_law_text).names.lookup ("_law_text_here" : Str) = some .local := by decide +kernel
theorem lk_law_text_law_word : (defScope s_law_text).names.lookup ("_law_word" : Str) = some .globalImplicit := by decide +kernel
noncomputable def c_text (a0 : (List (Int × (List Nat) × Thing))) : Co Unit Empty (List Nat) := chk ((-((a0).length : Int) ≤ (0 : Int) ∧ (0 : Int) < ((a0).length : Int))) (bndO ((wordF (ix a0 (0 : Int) ((0 : Int), [], (Thing.num 0)))) : Out (List Nat)) fun v1 => Co.bind (S := (List Nat)) (coLoop (Y := (Int × (List Nat) × Thing)) (fun (s3 : (List Nat)) (y4 : (Int × (List Nat) × Thing)) => (chk ((-((([([32, 45, 32] : List Nat), ([32, 43, 32] : List Nat)] : List (List Nat))).length : Int) ≤ (if (decide (y4.1 = (1 : Int))) = true then 1 else 0 : Int) ∧ (if (decide (y4.1 = (1 : Int))) = true then 1 else 0 : Int) < ((([([32, 45, 32] : List Nat), ([32, 43, 32] : List Nat)] : List (List Nat))).length : Int)) ∧ (s3.length + (ix ([([32, 45, 32] : List Nat), ([32, 43, 32] : List Nat)] : List (List Nat)) (if (decide (y4.1 = (1 : Int))) = true then 1 else 0 : Int) []).length ≤ LMax) ∧ (((wordF y4)).IsOk) ∧ ((s3 ++ (ix ([([32, 45, 32] : List Nat), ([32, 43, 32] : List Nat)] : List (List Nat)) (if (decide (y4.1 = (1 : Int))) = true then 1 else 0 : Int) [])).length + ((wordF y4).get []).length ≤ LMax)) (bnd (((s3 ++ (ix ([([32, 45, 32] : List Nat), ([32, 43, 32] : List Nat)] : List (List Nat)) (if (decide (y4.1 = (1 : Int))) = true then 1 else 0 : Int) [])) ++ ((wordF y4).get [])) : (List Nat)) fun v5 => .go v5) : Co ((List Nat)) ((List Nat)) (List Nat))) v1 (cutL a0 (some (1 : Int)) none)) fun s11 => .ret (.ok s11))
noncomputable def textF (a0 : (List (Int × (List Nat) × Thing))) : Out (List Nat) := (c_text a0).out .stk
theorem bd_text (X : Cx) (E : XK) (hX : XOk 1 nm_law_text (defScope s_law_text) X) (hM : XCm X E) (m_int : X.mg "int" = none) (kn_word : KnX X "_law_word" 1 (sp_word X.K)) (a0 : (List (Int × (List Nat) × Thing))) : BC X E ([.d (D.lst (List.map (fun z : (Int × (List Nat) × Thing) => (D.tup [(D.int z.1), (D.str z.2.1), (encThing z.2.2)])) a0)), .un, .un] : List B) (defBody s_law_text) (fun s : Unit => List.replicate 3 B.un) (fun s : Empty => nomatch s) (fun z : (List Nat) => Res.v (D.str z)) (c_text a0) := by
  unfold c_text
  exact (c_chk (fun h12 => (have c2 := h12; (c_setR 1 D.str hX rfl (loc_l lk_law_text_law_text_here) (es_call (E := (fun _ => E)) (ix a0 (0 : Int) ((0 : Int), [], (Thing.num 0))) hM.pass kn_word (hM.room hX (by decide)) (hX.gl lk_law_text_law_word) (ea2_d (ed_ixL (EvD.el (ed_var 0 (hX.nm rfl) (hX.vs (vis_l lk_law_text_law_terms_here)) rfl)) ed_int (atI_map (f := (fun z : (Int × (List Nat) × Thing) => (D.tup [(D.int z.1), (D.str z.2.1), (encThing z.2.2)]))) (xs := a0) (ix_ok (d := ((0 : Int), [], (Thing.num 0))) c2))) ea2_nil) trivial) (fun v1 => (show BC X E ([.d (D.lst (List.map (fun z : (Int × (List Nat) × Thing) => (D.tup [(D.int z.1), (D.str z.2.1), (encThing z.2.2)])) a0)), .d (D.str v1), .un] : List B) _ _ _ _ _ from (c_for (Γl := (fun s3 : (List Nat) => ([.d (D.lst (List.map (fun z : (Int × (List Nat) × Thing) => (D.tup [(D.int z.1), (D.str z.2.1), (encThing z.2.2)])) a0)), .d (D.str s3), .un] : List B))) (g := (gName 2)) (js := [2]) (fun z : (Int × (List Nat) × Thing) => (D.tup [(D.int z.1), (D.str z.2.1), (encThing z.2.2)])) (fun (s3 : (List Nat)) (y4 : (Int × (List Nat) × Thing)) => (chk ((-((([([32, 45, 32] : List Nat), ([32, 43, 32] : List Nat)] : List (List Nat))).length : Int) ≤ (if (decide (y4.1 = (1 : Int))) = true then 1 else 0 : Int) ∧ (if (decide (y4.1 = (1 : Int))) = true then 1 else 0 : Int) < ((([([32, 45, 32] : List Nat), ([32, 43, 32] : List Nat)] : List (List Nat))).length : Int)) ∧ (s3.length + (ix ([([32, 45, 32] : List Nat), ([32, 43, 32] : List Nat)] : List (List Nat)) (if (decide (y4.1 = (1 : Int))) = true then 1 else 0 : Int) []).length ≤ LMax) ∧ (((wordF y4)).IsOk) ∧ ((s3 ++ (ix ([([32, 45, 32] : List Nat), ([32, 43, 32] : List Nat)] : List (List Nat)) (if (decide (y4.1 = (1 : Int))) = true then 1 else 0 : Int) [])).length + ((wordF y4).get []).length ≤ LMax)) (bnd (((s3 ++ (ix ([([32, 45, 32] : List Nat), ([32, 43, 32] : List Nat)] : List (List Nat)) (if (decide (y4.1 = (1 : Int))) = true then 1 else 0 : Int) [])) ++ ((wordF y4).get [])) : (List Nat)) fun v5 => .go v5) : Co ((List Nat)) ((List Nat)) (List Nat))) v1 (cutL a0 (some (1 : Int)) none) (fun (s3 : (List Nat)) (y4 : (Int × (List Nat) × Thing)) => ([.d (D.lst (List.map (fun z : (Int × (List Nat) × Thing) => (D.tup [(D.int z.1), (D.str z.2.1), (encThing z.2.2)])) a0)), .d (D.str s3), .d (D.tup [(D.int y4.1), (D.str y4.2.1), (encThing y4.2.2)])] : List B)) hM hX (.keep (.keep (.keep .nil))) (it_lst (EvO.frz (eo_slM (EvD.el (ed_var 0 (hX.nm rfl) (hX.vs (vis_l lk_law_text_law_terms_here)) rfl)) (ep_some ed_int) ep_none))) (pg_name (i := 2) hX.nd (hX.nm rfl) (hX.lc (loc_l lk_law_text_law_term_here)) (.inl (hX.fn _))) (fun s3 y4 => (tg_name 2)) (fun s3 y4 => (c_chk (fun h10 => (have ⟨c6, c7, c8, c9⟩ := h10; (c_set 1 D.str hX rfl (loc_l lk_law_text_law_text_here) (ed_op (od_addS _ _ c9) (ed_op (od_addS _ _ c7) (ed_var 1 (hX.nm rfl) (hX.vs (vis_l lk_law_text_law_text_here)) rfl) (ed_ixL (EvO.el (eo_lst (ea_cons (ed_str ([32, 45, 32] : List Nat) (by decide +kernel) (by decide)) (ea_cons (ed_str ([32, 43, 32] : List Nat) (by decide +kernel) (by decide)) ea_nil)) (by show 2 ≤ sizeLine; decide))) (ed_intB (hX.gl lk_law_text_int) m_int (ed_cmp (od_eqI _ _) (ed_ixT (ed_var 2 (hX.nm rfl) (hX.vs (vis_l lk_law_text_law_term_here)) rfl) ed_int rfl) ed_int)) (atI_map (f := D.str) (xs := ([([32, 45, 32] : List Nat), ([32, 43, 32] : List Nat)] : List (List Nat))) (ix_ok (d := []) c6)))) (ed_okS (z := D.str) [] (fun E tk => (es_call (E := E) y4 tk kn_word (hM.room hX (by decide)) (hX.gl lk_law_text_law_word) (ea2_d (ed_var 2 (hX.nm rfl) (hX.vs (vis_l lk_law_text_law_term_here)) rfl) ea2_nil) trivial)) (fun _ => rfl) c8)) (fun v5 hv5 => (show BC X E ([.d (D.lst (List.map (fun z : (Int × (List Nat) × Thing) => (D.tup [(D.int z.1), (D.str z.2.1), (encThing z.2.2)])) a0)), .d (D.str v5), .d (D.tup [(D.int y4.1), (D.str y4.2.1), (encThing y4.2.2)])] : List B) _ _ _ _ _ from (c_nil (.keep (.keep (.drop .nil))))))))))) (fun s11 => (show BC X E ([.d (D.lst (List.map (fun z : (Int × (List Nat) × Thing) => (D.tup [(D.int z.1), (D.str z.2.1), (encThing z.2.2)])) a0)), .d (D.str s11), .un] : List B) _ _ _ _ _ from (c_ret (ed_var 1 (hX.nm rfl) (hX.vs (vis_l lk_law_text_law_text_here)) rfl) rfl))))))))))
abbrev sp_text (K : PySem.W.Frag) : Sp := spG K (A := (List (Int × (List Nat) × Thing))) (fun a => [.d (D.lst (List.map (fun z : (Int × (List Nat) × Thing) => (D.tup [(D.int z.1), (D.str z.2.1), (encThing z.2.2)])) a))]) (fun _ => True) (fun a => rsOf (fun z : (List Nat) => Res.v (D.str z)) (textF a))
theorem ok_text {P : Program} {w : World} {K : PySem.W.Frag} {mg : Str → Option Value} {base : Heap} {f : Addr} {fd : FuncData} (F : Fun K "_law_text" "_law_text" s_law_text f fd) (m_int : mg "int" = none) (kn_word : Kn P w K mg base "_law_word" 1 (sp_word K)) : FnOk P w K mg base (L2.CX P w) 2 f fd ["_law_terms_here"] (sp_text K) :=
  def_okC (A := (List (Int × (List Nat) × Thing))) F sc_law_text .stk (.inl rfl) (fun _ => rfl) (fun a => c_text a) (fun a X E e1 e2 e3 e4 e5 hX hM => by
    subst e1 e2 e3 e4 e5
    exact bd_text X E hX hM m_int kn_word a)
abbrev s_law_row : Stmt := top 49
abbrev nm_law_row : List Str := ["_law_cell_here", "_law_name_here", "_law_sort", "_law_terms_here", "_law_sign", "_law_kind", "_law_thing"]
theorem sc_law_row : FnScope nm_law_row ["_law_cell_here", "_law_name_here"] (defScope s_law_row) := ⟨rfl, rfl, rfl, by decide +kernel, rfl, by decide +kernel, by decide +kernel⟩
theorem lk_law_row_law_address : (defScope s_law_row).names.lookup ("_law_address" : Str) = some .globalImplicit := by decide +kernel
theorem lk_law_row_law_cell_here : (defScope s_law_row).names.lookup ("_law_cell_here" : Str) = some .local := by decide +kernel
theorem lk_law_row_law_label : (defScope s_law_row).names.lookup ("_law_label" : Str) = some .globalImplicit := by decide +kernel
theorem lk_law_row_law_name_here : (defScope s_law_row).names.lookup ("_law_name_here" : Str) = some .local := by decide +kernel
theorem lk_law_row_law_pick : (defScope s_law_row).names.lookup ("_law_pick" : Str) = some .globalImplicit := by decide +kernel
theorem lk_law_row_law_sort : (defScope s_law_row).names.lookup ("_law_sort" : Str) = some .local := by decide +kernel
theorem lk_law_row_law_sub : (defScope s_law_row).names.lookup ("_law_sub" : Str) = some .globalImplicit := by decide +kernel
theorem lk_law_row_law_terms : (defScope s_law_row).names.lookup ("_law_terms" : Str) = some .globalImplicit := by decide +kernel
theorem lk_law_row_law_terms_here : (defScope s_law_row).names.lookup ("_law_terms_here" : Str) = some .local := by decide +kernel
noncomputable def c_row (a0 : Int) (a1 : (List Nat)) : Co Unit Empty ((List Nat) × (List Nat) × (List Nat) × (List Nat) × (List (Int × (List Nat) × Thing))) := chk ((((pickF a0 (10 : Int) (6 : Int))).IsOk) ∧ (-((([([108, 101, 116] : List Nat), ([100, 101, 101, 100] : List Nat), ([100, 114, 97, 119] : List Nat), ([108, 97, 116, 101] : List Nat), ([116, 97, 107, 101] : List Nat), ([110, 101, 101, 100] : List Nat)] : List (List Nat))).length : Int) ≤ ((pickF a0 (10 : Int) (6 : Int)).get (0 : Int)) ∧ ((pickF a0 (10 : Int) (6 : Int)).get (0 : Int)) < ((([([108, 101, 116] : List Nat), ([100, 101, 101, 100] : List Nat), ([100, 114, 97, 119] : List Nat), ([108, 97, 116, 101] : List Nat), ([116, 97, 107, 101] : List Nat), ([110, 101, 101, 100] : List Nat)] : List (List Nat))).length : Int))) (bnd ((ix ([([108, 101, 116] : List Nat), ([100, 101, 101, 100] : List Nat), ([100, 114, 97, 119] : List Nat), ([108, 97, 116, 101] : List Nat), ([116, 97, 107, 101] : List Nat), ([110, 101, 101, 100] : List Nat)] : List (List Nat)) ((pickF a0 (10 : Int) (6 : Int)).get (0 : Int)) []) : (List Nat)) fun v1 => bndO ((termsF a0) : Out (List (Int × (List Nat) × Thing))) fun v4 => Co.bind (S := (List (Int × (List Nat) × Thing))) (if (decide (v1 = ([100, 101, 101, 100] : List Nat))) = true then chk ((∀ y7 ∈ v4, (-((([([112, 97, 116, 104] : List Nat), y7.2.1] : List (List Nat))).length : Int) ≤ (if (decide (y7.2.1 = ([110, 117, 109, 98, 101, 114] : List Nat))) = true then 1 else 0 : Int) ∧ (if (decide (y7.2.1 = ([110, 117, 109, 98, 101, 114] : List Nat))) = true then 1 else 0 : Int) < ((([([112, 97, 116, 104] : List Nat), y7.2.1] : List (List Nat))).length : Int))) ∧ (v4.length < sizeLine)) (bnd ((List.map (fun y7 : (Int × (List Nat) × Thing) => (y7.1, (ix ([([112, 97, 116, 104] : List Nat), y7.2.1] : List (List Nat)) (if (decide (y7.2.1 = ([110, 117, 109, 98, 101, 114] : List Nat))) = true then 1 else 0 : Int) []), y7.2.2)) v4) : (List (Int × (List Nat) × Thing))) fun v6 => .go v6) else .go v4) fun s14 => Co.bind (S := (List Nat)) (if (decide (v1 = ([110, 101, 101, 100] : List Nat))) = true then bnd (([] : List Nat) : (List Nat)) fun v16 => .go v16 else .go a1) fun s17 => chk ((((subF a0 (31 : Int))).IsOk) ∧ (((addressF ((subF a0 (31 : Int)).get (0 : Int)))).IsOk) ∧ (((subF a0 (35 : Int))).IsOk) ∧ (((labelF ((subF a0 (35 : Int)).get (0 : Int)))).IsOk)) (.ret (.ok (v1, s17, ((addressF ((subF a0 (31 : Int)).get (0 : Int))).get []), ((labelF ((subF a0 (35 : Int)).get (0 : Int))).get []), s14))))
noncomputable def rowF (a0 : Int) (a1 : (List Nat)) : Out ((List Nat) × (List Nat) × (List Nat) × (List Nat) × (List (Int × (List Nat) × Thing))) := (c_row a0 a1).out .stk
theorem bd_row (X : Cx) (E : XK) (hX : XOk 5 nm_law_row (defScope s_law_row) X) (hM : XCm X E) (m_int : X.mg "int" = none) (kn_address : KnX X "_law_address" 4 (sp_address X.K)) (kn_label : KnX X "_law_label" 3 (sp_label X.K)) (kn_pick : KnX X "_law_pick" 1 (sp_pick X.K)) (kn_sub : KnX X "_law_sub" 1 (sp_sub X.K)) (kn_terms : KnX X "_law_terms" 5 (sp_terms X.K)) (a0 : Int) (a1 : (List Nat)) : BC X E ([.d (D.int a0), .d (D.str a1), .un, .un, .un, .un, .un] : List B) (defBody s_law_row) (fun s : Unit => List.replicate 7 B.un) (fun s : Empty => nomatch s) (fun z : ((List Nat) × (List Nat) × (List Nat) × (List Nat) × (List (Int × (List Nat) × Thing))) => Res.v (D.tup [(D.str z.1), (D.str z.2.1), (D.str z.2.2.1), (D.str z.2.2.2.1), (D.lst (List.map (fun z : (Int × (List Nat) × Thing) => (D.tup [(D.int z.1), (D.str z.2.1), (encThing z.2.2)])) z.2.2.2.2))])) (c_row a0 a1) := by
  unfold c_row
  exact (c_chk (fun h23 => (have ⟨c2, c3⟩ := h23; (c_set 2 D.str hX rfl (loc_l lk_law_row_law_sort) (ed_ixL (EvO.el (eo_lst (ea_cons (ed_str ([108, 101, 116] : List Nat) (by decide +kernel) (by decide)) (ea_cons (ed_str ([100, 101, 101, 100] : List Nat) (by decide +kernel) (by decide)) (ea_cons (ed_str ([100, 114, 97, 119] : List Nat) (by decide +kernel) (by decide)) (ea_cons (ed_str ([108, 97, 116, 101] : List Nat) (by decide +kernel) (by decide)) (ea_cons (ed_str ([116, 97, 107, 101] : List Nat) (by decide +kernel) (by decide)) (ea_cons (ed_str ([110, 101, 101, 100] : List Nat) (by decide +kernel) (by decide)) ea_nil)))))) (by show 6 ≤ sizeLine; decide))) (ed_okS (z := D.int) (0 : Int) (fun E tk => (es_call (E := E) ((a0, (10 : Int), (6 : Int)) : Int × Int × Int) tk kn_pick (hM.room hX (by decide)) (hX.gl lk_law_row_law_pick) (ea2_d (ed_var 0 (hX.nm rfl) (hX.vs (vis_l lk_law_row_law_cell_here)) rfl) (ea2_d ed_int (ea2_d ed_int ea2_nil))) trivial)) (fun _ => rfl) c2) (atI_map (f := D.str) (xs := ([([108, 101, 116] : List Nat), ([100, 101, 101, 100] : List Nat), ([100, 114, 97, 119] : List Nat), ([108, 97, 116, 101] : List Nat), ([116, 97, 107, 101] : List Nat), ([110, 101, 101, 100] : List Nat)] : List (List Nat))) (ix_ok (d := []) c3))) (fun v1 hv1 => (show BC X E ([.d (D.int a0), .d (D.str a1), .d (D.str v1), .un, .un, .un, .un] : List B) _ _ _ _ _ from (c_setR 3 (fun z : (List (Int × (List Nat) × Thing)) => (D.lst (List.map (fun z : (Int × (List Nat) × Thing) => (D.tup [(D.int z.1), (D.str z.2.1), (encThing z.2.2)])) z))) hX rfl (loc_l lk_law_row_law_terms_here) (es_call (E := (fun _ => E)) a0 hM.pass kn_terms (hM.room hX (by decide)) (hX.gl lk_law_row_law_terms) (ea2_d (ed_var 0 (hX.nm rfl) (hX.vs (vis_l lk_law_row_law_cell_here)) rfl) ea2_nil) trivial) (fun v4 => (show BC X E ([.d (D.int a0), .d (D.str a1), .d (D.str v1), .d (D.lst (List.map (fun z : (Int × (List Nat) × Thing) => (D.tup [(D.int z.1), (D.str z.2.1), (encThing z.2.2)])) v4)), .un, .un, .un] : List B) _ _ _ _ _ from (c_ifj (Γj := (fun s14 : (List (Int × (List Nat) × Thing)) => ([.d (D.int a0), .d (D.str a1), .d (D.str v1), .d (D.lst (List.map (fun z : (Int × (List Nat) × Thing) => (D.tup [(D.int z.1), (D.str z.2.1), (encThing z.2.2)])) s14)), .un, .un, .un] : List B))) (et_cmp (od_eqS _ _) (ed_var 2 (hX.nm rfl) (hX.vs (vis_l lk_law_row_law_sort)) rfl) (ed_str ([100, 101, 101, 100] : List Nat) (by decide +kernel) (by decide))) (fun h5 => (c_chk (fun h13 => (have ⟨c11, c12⟩ := h13; (c_setLc 3 (fun z : (List (Int × (List Nat) × Thing)) => OO.lst (List.map (fun z : (Int × (List Nat) × Thing) => (D.tup [(D.int z.1), (D.str z.2.1), (encThing z.2.2)])) z)) hM hX rfl lk_law_row_law_terms_here (sw_yes hX lk_law_row_law_terms_here (by decide +kernel)) (lc_ok0 (Yt := (Int × (List Nat) × Thing)) (τ := (Int × (List Nat) × Thing)) (encY := (fun z : (Int × (List Nat) × Thing) => (D.tup [(D.int z.1), (D.str z.2.1), (encThing z.2.2)]))) (enc := (fun z : (Int × (List Nat) × Thing) => (D.tup [(D.int z.1), (D.str z.2.1), (encThing z.2.2)]))) (g := (gTup X.K 3 (gCons (gName 4) (gCons (gName 5) (gCons (gName 6) gNil))))) (js := [4, 5, 6]) (own := [("_law_sign", 4), ("_law_kind", 5), ("_law_thing", 6)]) v4 (fun y7 : (Int × (List Nat) × Thing) => (y7.1, (ix ([([112, 97, 116, 104] : List Nat), y7.2.1] : List (List Nat)) (if (decide (y7.2.1 = ([110, 117, 109, 98, 101, 114] : List Nat))) = true then 1 else 0 : Int) []), y7.2.2)) (it_lst (ed_var 3 (hX.nm rfl) (hX.vs (vis_l lk_law_row_law_terms_here)) rfl)) (blk_ok hX (by decide +kernel)) (fun _ _ _ _ _ => (pg_tup hM.calm (pgs_cons (pg_name (i := 4) hX.nd (hX.nm rfl) (blk_lc hX (loc_l (by decide +kernel))) (.inr (blk_lk hX (by decide +kernel)))) (pgs_cons (pg_name (i := 5) hX.nd (hX.nm rfl) (blk_lc hX (loc_l (by decide +kernel))) (.inr (blk_lk hX (by decide +kernel)))) (pgs_cons (pg_name (i := 6) hX.nd (hX.nm rfl) (blk_lc hX (loc_l (by decide +kernel))) (.inr (blk_lk hX (by decide +kernel)))) pgs_nil))))) (by decide) c12 (fun y7 : (Int × (List Nat) × Thing) => ([.d (D.int a0), .d (D.str a1), .d (D.str v1), .d (D.lst (List.map (fun z : (Int × (List Nat) × Thing) => (D.tup [(D.int z.1), (D.str z.2.1), (encThing z.2.2)])) v4)), .d (D.int y7.1), .d (D.str y7.2.1), .d (encThing y7.2.2)] : List B)) (fun y7 _ => (show TgD X.K (gTup X.K 3 (gCons (gName 4) (gCons (gName 5) (gCons (gName 6) gNil)))) [4, 5, 6] (wipeB ([.d (D.int a0), .d (D.str a1), .d (D.str v1), .d (D.lst (List.map (fun z : (Int × (List Nat) × Thing) => (D.tup [(D.int z.1), (D.str z.2.1), (encThing z.2.2)])) v4)), .un, .un, .un] : List B) [4, 5, 6]) ((fun z : (Int × (List Nat) × Thing) => (D.tup [(D.int z.1), (D.str z.2.1), (encThing z.2.2)])) y7) ([.d (D.int a0), .d (D.str a1), .d (D.str v1), .d (D.lst (List.map (fun z : (Int × (List Nat) × Thing) => (D.tup [(D.int z.1), (D.str z.2.1), (encThing z.2.2)])) v4)), .d (D.int y7.1), .d (D.str y7.2.1), .d (encThing y7.2.2)] : List B) from (tg_tup (tgs_cons 4 (tgs_cons 5 (tgs_cons 6 tgs_nil))) rfl))) (fun y7 hy8 _ _ _ _ _ => (have c10 := (c11 y7 hy8); (ed_tup (ea_cons (ed_var 4 (hX.nm rfl) (blk_vs hX (vis_l (by decide +kernel))) rfl) (ea_cons (ed_ixL (EvO.el (eo_lst (ea_cons (ed_str ([112, 97, 116, 104] : List Nat) (by decide +kernel) (by decide)) (ea_cons (ed_var 5 (hX.nm rfl) (blk_vs hX (vis_l (by decide +kernel))) rfl) ea_nil)) (by show 2 ≤ sizeLine; decide))) (ed_intB (blk_gl hX (by decide +kernel)) m_int (ed_cmp (od_eqS _ _) (ed_var 5 (hX.nm rfl) (blk_vs hX (vis_l (by decide +kernel))) rfl) (ed_str ([110, 117, 109, 98, 101, 114] : List Nat) (by decide +kernel) (by decide)))) (atI_map (f := D.str) (xs := ([([112, 97, 116, 104] : List Nat), y7.2.1] : List (List Nat))) (ix_ok (d := []) c10))) (ea_cons (ed_var 6 (hX.nm rfl) (blk_vs hX (vis_l (by decide +kernel))) rfl) ea_nil))) (by show 3 ≤ sizeLine; decide))))) (fun v6 hv6 => (show BC X E ([.d (D.int a0), .d (D.str a1), .d (D.str v1), .own (.lst (List.map (fun z : (Int × (List Nat) × Thing) => (D.tup [(D.int z.1), (D.str z.2.1), (encThing z.2.2)])) v6)), .un, .un, .un] : List B) _ _ _ _ _ from (c_frz 3 rfl (c_nil (.keep (.keep (.keep (.keep (.keep (.keep (.keep .nil)))))))))))))))) (fun h5 => (c_nil (.keep (.keep (.keep (.keep (.keep (.keep (.keep .nil))))))))) (fun s14 => (c_ifj (Γj := (fun s17 : (List Nat) => ([.d (D.int a0), .d (D.str s17), .d (D.str v1), .d (D.lst (List.map (fun z : (Int × (List Nat) × Thing) => (D.tup [(D.int z.1), (D.str z.2.1), (encThing z.2.2)])) s14)), .un, .un, .un] : List B))) (et_cmp (od_eqS _ _) (ed_var 2 (hX.nm rfl) (hX.vs (vis_l lk_law_row_law_sort)) rfl) (ed_str ([110, 101, 101, 100] : List Nat) (by decide +kernel) (by decide))) (fun h15 => (c_set 1 D.str hX rfl (loc_l lk_law_row_law_name_here) (ed_str ([] : List Nat) (by decide +kernel) (by decide)) (fun v16 hv16 => (show BC X E ([.d (D.int a0), .d (D.str v16), .d (D.str v1), .d (D.lst (List.map (fun z : (Int × (List Nat) × Thing) => (D.tup [(D.int z.1), (D.str z.2.1), (encThing z.2.2)])) s14)), .un, .un, .un] : List B) _ _ _ _ _ from (c_nil (.keep (.keep (.keep (.keep (.keep (.keep (.keep .nil)))))))))))) (fun h15 => (c_nil (.keep (.keep (.keep (.keep (.keep (.keep (.keep .nil))))))))) (fun s17 => (c_chk (fun h22 => (have ⟨c18, c19, c20, c21⟩ := h22; (c_ret (ed_tup (ea_cons (ed_var 2 (hX.nm rfl) (hX.vs (vis_l lk_law_row_law_sort)) rfl) (ea_cons (ed_var 1 (hX.nm rfl) (hX.vs (vis_l lk_law_row_law_name_here)) rfl) (ea_cons (ed_okS (z := D.str) [] (fun E tk => (es_call (E := E) ((subF a0 (31 : Int)).get (0 : Int)) tk kn_address (hM.room hX (by decide)) (hX.gl lk_law_row_law_address) (ea2_d (ed_okS (z := D.int) (0 : Int) (fun E tk => (es_call (E := E) ((a0, (31 : Int)) : Int × Int) tk kn_sub (hM.room hX (by decide)) (hX.gl lk_law_row_law_sub) (ea2_d (ed_var 0 (hX.nm rfl) (hX.vs (vis_l lk_law_row_law_cell_here)) rfl) (ea2_d ed_int ea2_nil)) trivial)) (fun _ => rfl) c18) ea2_nil) trivial)) (fun _ => rfl) c19) (ea_cons (ed_okS (z := D.str) [] (fun E tk => (es_call (E := E) ((subF a0 (35 : Int)).get (0 : Int)) tk kn_label (hM.room hX (by decide)) (hX.gl lk_law_row_law_label) (ea2_d (ed_okS (z := D.int) (0 : Int) (fun E tk => (es_call (E := E) ((a0, (35 : Int)) : Int × Int) tk kn_sub (hM.room hX (by decide)) (hX.gl lk_law_row_law_sub) (ea2_d (ed_var 0 (hX.nm rfl) (hX.vs (vis_l lk_law_row_law_cell_here)) rfl) (ea2_d ed_int ea2_nil)) trivial)) (fun _ => rfl) c20) ea2_nil) trivial)) (fun _ => rfl) c21) (ea_cons (ed_var 3 (hX.nm rfl) (hX.vs (vis_l lk_law_row_law_terms_here)) rfl) ea_nil))))) (by show 5 ≤ sizeLine; decide)) rfl)))))))))))))))))
abbrev sp_row (K : PySem.W.Frag) : Sp := spG K (A := Int × (List Nat)) (fun a => [.d (D.int a.1), .d (D.str a.2)]) (fun _ => True) (fun a => rsOf (fun z : ((List Nat) × (List Nat) × (List Nat) × (List Nat) × (List (Int × (List Nat) × Thing))) => Res.v (D.tup [(D.str z.1), (D.str z.2.1), (D.str z.2.2.1), (D.str z.2.2.2.1), (D.lst (List.map (fun z : (Int × (List Nat) × Thing) => (D.tup [(D.int z.1), (D.str z.2.1), (encThing z.2.2)])) z.2.2.2.2))])) (rowF a.1 a.2))
theorem ok_row {P : Program} {w : World} {K : PySem.W.Frag} {mg : Str → Option Value} {base : Heap} {f : Addr} {fd : FuncData} (F : Fun K "_law_row" "_law_row" s_law_row f fd) (m_int : mg "int" = none) (kn_address : Kn P w K mg base "_law_address" 4 (sp_address K)) (kn_label : Kn P w K mg base "_law_label" 3 (sp_label K)) (kn_pick : Kn P w K mg base "_law_pick" 1 (sp_pick K)) (kn_sub : Kn P w K mg base "_law_sub" 1 (sp_sub K)) (kn_terms : Kn P w K mg base "_law_terms" 5 (sp_terms K)) : FnOk P w K mg base (L2.CX P w) 6 f fd ["_law_cell_here", "_law_name_here"] (sp_row K) :=
  def_okC (A := Int × (List Nat)) F sc_law_row .stk (.inl rfl) (fun _ => rfl) (fun a => c_row a.1 a.2) (fun a X E e1 e2 e3 e4 e5 hX hM => by
    subst e1 e2 e3 e4 e5
    exact bd_row X E hX hM m_int kn_address kn_label kn_pick kn_sub kn_terms a.1 a.2)
abbrev s_law_said : Stmt := top 50
abbrev nm_law_said : List Str := ["_law_row_here", "_law_sort", "_law_name_here", "_law_address_here", "_law_word_here", "_law_terms_here"]
theorem sc_law_said : FnScope nm_law_said ["_law_row_here"] (defScope s_law_said) := ⟨rfl, rfl, rfl, by decide +kernel, rfl, by decide +kernel, by decide +kernel⟩
theorem lk_law_said_law_address_here : (defScope s_law_said).names.lookup ("_law_address_here" : Str) = some .local := by decide +kernel
theorem lk_law_said_law_name_here : (defScope s_law_said).names.lookup ("_law_name_here" : Str) = some .local := by decide +kernel
theorem lk_law_said_law_row_here : (defScope s_law_said).names.lookup ("_law_row_here" : Str) = some .local := by decide +kernel
theorem lk_law_said_law_sort : (defScope s_law_said).names.lookup ("_law_sort" : Str) = some .local := by decide +kernel
theorem lk_law_said_law_terms_here : (defScope s_law_said).names.lookup ("_law_terms_here" : Str) = some .local := by decide +kernel
theorem lk_law_said_law_text : (defScope s_law_said).names.lookup ("_law_text" : Str) = some .globalImplicit := by decide +kernel
theorem lk_law_said_law_word_here : (defScope s_law_said).names.lookup ("_law_word_here" : Str) = some .local := by decide +kernel
noncomputable def c_lsaid (a0 : ((List Nat) × (List Nat) × (List Nat) × (List Nat) × (List (Int × (List Nat) × Thing)))) : Co Unit Empty (List Nat) := bnd (a0 : ((List Nat) × (List Nat) × (List Nat) × (List Nat) × (List (Int × (List Nat) × Thing)))) fun v1 => if ((decide (v1.1 = ([100, 114, 97, 119] : List Nat))) || (decide (v1.1 = ([108, 97, 116, 101] : List Nat)))) = true then Co.up (chk ((v1.1.length + ([32] : List Nat).length ≤ LMax) ∧ ((v1.1 ++ ([32] : List Nat)).length + v1.2.2.1.length ≤ LMax) ∧ (((v1.1 ++ ([32] : List Nat)) ++ v1.2.2.1).length + ([32, 97, 115, 32] : List Nat).length ≤ LMax) ∧ ((((v1.1 ++ ([32] : List Nat)) ++ v1.2.2.1) ++ ([32, 97, 115, 32] : List Nat)).length + v1.2.1.length ≤ LMax)) (.ret (.ok ((((v1.1 ++ ([32] : List Nat)) ++ v1.2.2.1) ++ ([32, 97, 115, 32] : List Nat)) ++ v1.2.1)))) else if (decide (v1.1 = ([116, 97, 107, 101] : List Nat))) = true then Co.up (chk ((([116, 97, 107, 101, 32] : List Nat).length + v1.2.2.2.1.length ≤ LMax) ∧ ((([116, 97, 107, 101, 32] : List Nat) ++ v1.2.2.2.1).length + ([32, 102, 114, 111, 109, 32] : List Nat).length ≤ LMax) ∧ (((([116, 97, 107, 101, 32] : List Nat) ++ v1.2.2.2.1) ++ ([32, 102, 114, 111, 109, 32] : List Nat)).length + v1.2.2.1.length ≤ LMax) ∧ ((((([116, 97, 107, 101, 32] : List Nat) ++ v1.2.2.2.1) ++ ([32, 102, 114, 111, 109, 32] : List Nat)) ++ v1.2.2.1).length + ([32, 97, 115, 32] : List Nat).length ≤ LMax) ∧ (((((([116, 97, 107, 101, 32] : List Nat) ++ v1.2.2.2.1) ++ ([32, 102, 114, 111, 109, 32] : List Nat)) ++ v1.2.2.1) ++ ([32, 97, 115, 32] : List Nat)).length + v1.2.1.length ≤ LMax)) (.ret (.ok (((((([116, 97, 107, 101, 32] : List Nat) ++ v1.2.2.2.1) ++ ([32, 102, 114, 111, 109, 32] : List Nat)) ++ v1.2.2.1) ++ ([32, 97, 115, 32] : List Nat)) ++ v1.2.1)))) else if (decide (v1.1 = ([110, 101, 101, 100] : List Nat))) = true then Co.up (chk ((((textF v1.2.2.2.2)).IsOk) ∧ (([110, 101, 101, 100, 32] : List Nat).length + ((textF v1.2.2.2.2).get []).length ≤ LMax)) (.ret (.ok (([110, 101, 101, 100, 32] : List Nat) ++ ((textF v1.2.2.2.2).get []))))) else chk ((v1.1.length + ([32] : List Nat).length ≤ LMax) ∧ ((v1.1 ++ ([32] : List Nat)).length + v1.2.1.length ≤ LMax) ∧ (((v1.1 ++ ([32] : List Nat)) ++ v1.2.1).length + ([32, 98, 101, 32] : List Nat).length ≤ LMax) ∧ (((textF v1.2.2.2.2)).IsOk) ∧ ((((v1.1 ++ ([32] : List Nat)) ++ v1.2.1) ++ ([32, 98, 101, 32] : List Nat)).length + ((textF v1.2.2.2.2).get []).length ≤ LMax)) (.ret (.ok ((((v1.1 ++ ([32] : List Nat)) ++ v1.2.1) ++ ([32, 98, 101, 32] : List Nat)) ++ ((textF v1.2.2.2.2).get []))))
noncomputable def saidF (a0 : ((List Nat) × (List Nat) × (List Nat) × (List Nat) × (List (Int × (List Nat) × Thing)))) : Out (List Nat) := (c_lsaid a0).out .stk
theorem bd_lsaid (X : Cx) (E : XK) (hX : XOk 2 nm_law_said (defScope s_law_said) X) (hM : XCm X E) (kn_text : KnX X "_law_text" 2 (sp_text X.K)) (a0 : ((List Nat) × (List Nat) × (List Nat) × (List Nat) × (List (Int × (List Nat) × Thing)))) : BC X E ([.d (D.tup [(D.str a0.1), (D.str a0.2.1), (D.str a0.2.2.1), (D.str a0.2.2.2.1), (D.lst (List.map (fun z : (Int × (List Nat) × Thing) => (D.tup [(D.int z.1), (D.str z.2.1), (encThing z.2.2)])) a0.2.2.2.2))]), .un, .un, .un, .un, .un] : List B) (defBody s_law_said) (fun s : Unit => List.replicate 6 B.un) (fun s : Empty => nomatch s) (fun z : (List Nat) => Res.v (D.str z)) (c_lsaid a0) := by
  unfold c_lsaid
  exact (c_setT (g := (gTup X.K 5 (gCons (gName 1) (gCons (gName 2) (gCons (gName 3) (gCons (gName 4) (gCons (gName 5) gNil))))))) (js := [1, 2, 3, 4, 5]) (fun z : ((List Nat) × (List Nat) × (List Nat) × (List Nat) × (List (Int × (List Nat) × Thing))) => (D.tup [(D.str z.1), (D.str z.2.1), (D.str z.2.2.1), (D.str z.2.2.2.1), (D.lst (List.map (fun z : (Int × (List Nat) × Thing) => (D.tup [(D.int z.1), (D.str z.2.1), (encThing z.2.2)])) z.2.2.2.2))])) (fun v1 : ((List Nat) × (List Nat) × (List Nat) × (List Nat) × (List (Int × (List Nat) × Thing))) => ([.d (D.tup [(D.str a0.1), (D.str a0.2.1), (D.str a0.2.2.1), (D.str a0.2.2.2.1), (D.lst (List.map (fun z : (Int × (List Nat) × Thing) => (D.tup [(D.int z.1), (D.str z.2.1), (encThing z.2.2)])) a0.2.2.2.2))]), .d (D.str v1.1), .d (D.str v1.2.1), .d (D.str v1.2.2.1), .d (D.str v1.2.2.2.1), .d (D.lst (List.map (fun z : (Int × (List Nat) × Thing) => (D.tup [(D.int z.1), (D.str z.2.1), (encThing z.2.2)])) v1.2.2.2.2))] : List B)) (pg_tup hM.calm (pgs_cons (pg_name (i := 1) hX.nd (hX.nm rfl) (hX.lc (loc_l lk_law_said_law_sort)) (.inl (hX.fn _))) (pgs_cons (pg_name (i := 2) hX.nd (hX.nm rfl) (hX.lc (loc_l lk_law_said_law_name_here)) (.inl (hX.fn _))) (pgs_cons (pg_name (i := 3) hX.nd (hX.nm rfl) (hX.lc (loc_l lk_law_said_law_address_here)) (.inl (hX.fn _))) (pgs_cons (pg_name (i := 4) hX.nd (hX.nm rfl) (hX.lc (loc_l lk_law_said_law_word_here)) (.inl (hX.fn _))) (pgs_cons (pg_name (i := 5) hX.nd (hX.nm rfl) (hX.lc (loc_l lk_law_said_law_terms_here)) (.inl (hX.fn _))) pgs_nil)))))) (fun v1 => (tg_tup (tgs_cons 1 (tgs_cons 2 (tgs_cons 3 (tgs_cons 4 (tgs_cons 5 tgs_nil))))) rfl)) (ed_var 0 (hX.nm rfl) (hX.vs (vis_l lk_law_said_law_row_here)) rfl) (fun v1 hv1 => (c_ifr (et_w (ew_or (et_cmp (od_eqS _ _) (ed_var 1 (hX.nm rfl) (hX.vs (vis_l lk_law_said_law_sort)) rfl) (ed_str ([100, 114, 97, 119] : List Nat) (by decide +kernel) (by decide))) (fun h2 => (ew_or1 (et_cmp (od_eqS _ _) (ed_var 1 (hX.nm rfl) (hX.vs (vis_l lk_law_said_law_sort)) rfl) (ed_str ([108, 97, 116, 101] : List Nat) (by decide +kernel) (by decide))))))) (fun h3 => (c_chk (fun h8 => (have ⟨c4, c5, c6, c7⟩ := h8; (c_ret (ed_op (od_addS _ _ c7) (ed_op (od_addS _ _ c6) (ed_op (od_addS _ _ c5) (ed_op (od_addS _ _ c4) (ed_var 1 (hX.nm rfl) (hX.vs (vis_l lk_law_said_law_sort)) rfl) (ed_str ([32] : List Nat) (by decide +kernel) (by decide))) (ed_var 3 (hX.nm rfl) (hX.vs (vis_l lk_law_said_law_address_here)) rfl)) (ed_str ([32, 97, 115, 32] : List Nat) (by decide +kernel) (by decide))) (ed_var 2 (hX.nm rfl) (hX.vs (vis_l lk_law_said_law_name_here)) rfl)) rfl))))) (fun h3 => (c_ifr (et_cmp (od_eqS _ _) (ed_var 1 (hX.nm rfl) (hX.vs (vis_l lk_law_said_law_sort)) rfl) (ed_str ([116, 97, 107, 101] : List Nat) (by decide +kernel) (by decide))) (fun h9 => (c_chk (fun h15 => (have ⟨c10, c11, c12, c13, c14⟩ := h15; (c_ret (ed_op (od_addS _ _ c14) (ed_op (od_addS _ _ c13) (ed_op (od_addS _ _ c12) (ed_op (od_addS _ _ c11) (ed_op (od_addS _ _ c10) (ed_str ([116, 97, 107, 101, 32] : List Nat) (by decide +kernel) (by decide)) (ed_var 4 (hX.nm rfl) (hX.vs (vis_l lk_law_said_law_word_here)) rfl)) (ed_str ([32, 102, 114, 111, 109, 32] : List Nat) (by decide +kernel) (by decide))) (ed_var 3 (hX.nm rfl) (hX.vs (vis_l lk_law_said_law_address_here)) rfl)) (ed_str ([32, 97, 115, 32] : List Nat) (by decide +kernel) (by decide))) (ed_var 2 (hX.nm rfl) (hX.vs (vis_l lk_law_said_law_name_here)) rfl)) rfl))))) (fun h9 => (c_ifr (et_cmp (od_eqS _ _) (ed_var 1 (hX.nm rfl) (hX.vs (vis_l lk_law_said_law_sort)) rfl) (ed_str ([110, 101, 101, 100] : List Nat) (by decide +kernel) (by decide))) (fun h16 => (c_chk (fun h19 => (have ⟨c17, c18⟩ := h19; (c_ret (ed_op (od_addS _ _ c18) (ed_str ([110, 101, 101, 100, 32] : List Nat) (by decide +kernel) (by decide)) (ed_okS (z := D.str) [] (fun E tk => (es_call (E := E) v1.2.2.2.2 tk kn_text (hM.room hX (by decide)) (hX.gl lk_law_said_law_text) (ea2_d (ed_var 5 (hX.nm rfl) (hX.vs (vis_l lk_law_said_law_terms_here)) rfl) ea2_nil) trivial)) (fun _ => rfl) c17)) rfl))))) (fun h16 => (c_chk (fun h25 => (have ⟨c20, c21, c22, c23, c24⟩ := h25; (c_ret (ed_op (od_addS _ _ c24) (ed_op (od_addS _ _ c22) (ed_op (od_addS _ _ c21) (ed_op (od_addS _ _ c20) (ed_var 1 (hX.nm rfl) (hX.vs (vis_l lk_law_said_law_sort)) rfl) (ed_str ([32] : List Nat) (by decide +kernel) (by decide))) (ed_var 2 (hX.nm rfl) (hX.vs (vis_l lk_law_said_law_name_here)) rfl)) (ed_str ([32, 98, 101, 32] : List Nat) (by decide +kernel) (by decide))) (ed_okS (z := D.str) [] (fun E tk => (es_call (E := E) v1.2.2.2.2 tk kn_text (hM.room hX (by decide)) (hX.gl lk_law_said_law_text) (ea2_d (ed_var 5 (hX.nm rfl) (hX.vs (vis_l lk_law_said_law_terms_here)) rfl) ea2_nil) trivial)) (fun _ => rfl) c23)) rfl))))))))))))
abbrev sp_lsaid (K : PySem.W.Frag) : Sp := spG K (A := ((List Nat) × (List Nat) × (List Nat) × (List Nat) × (List (Int × (List Nat) × Thing)))) (fun a => [.d (D.tup [(D.str a.1), (D.str a.2.1), (D.str a.2.2.1), (D.str a.2.2.2.1), (D.lst (List.map (fun z : (Int × (List Nat) × Thing) => (D.tup [(D.int z.1), (D.str z.2.1), (encThing z.2.2)])) a.2.2.2.2))])]) (fun _ => True) (fun a => rsOf (fun z : (List Nat) => Res.v (D.str z)) (saidF a))
theorem ok_lsaid {P : Program} {w : World} {K : PySem.W.Frag} {mg : Str → Option Value} {base : Heap} {f : Addr} {fd : FuncData} (F : Fun K "_law_said" "_law_said" s_law_said f fd) (kn_text : Kn P w K mg base "_law_text" 2 (sp_text K)) : FnOk P w K mg base (L2.CX P w) 3 f fd ["_law_row_here"] (sp_lsaid K) :=
  def_okC (A := ((List Nat) × (List Nat) × (List Nat) × (List Nat) × (List (Int × (List Nat) × Thing)))) F sc_law_said .stk (.inl rfl) (fun _ => rfl) (fun a => c_lsaid a) (fun a X E e1 e2 e3 e4 e5 hX hM => by
    subst e1 e2 e3 e4 e5
    exact bd_lsaid X E hX hM kn_text a)
abbrev s_law_whole : Stmt := top 51
abbrev nm_law_whole : List Str := ["_law_found"]
theorem sc_law_whole : FnScope nm_law_whole ["_law_found"] (defScope s_law_whole) := ⟨rfl, rfl, rfl, by decide +kernel, rfl, by decide +kernel, by decide +kernel⟩
theorem lk_law_whole_bool : (defScope s_law_whole).names.lookup ("bool" : Str) = some .globalImplicit := by decide +kernel
theorem lk_law_whole_int : (defScope s_law_whole).names.lookup ("int" : Str) = some .globalImplicit := by decide +kernel
theorem lk_law_whole_isinstance : (defScope s_law_whole).names.lookup ("isinstance" : Str) = some .globalImplicit := by decide +kernel
theorem lk_law_whole_law_found : (defScope s_law_whole).names.lookup ("_law_found" : Str) = some .local := by decide +kernel
noncomputable def c_whole (a0 : D) : Co Unit Empty Bool := chk ((plainT a0 = true) ∧ ((isiD "int" a0) = true → (plainT a0 = true))) (.ret (.ok ((isiD "int" a0) && (!(isiD "bool" a0)))))
noncomputable def wholeF (a0 : D) : Out Bool := (c_whole a0).out .stk
theorem bd_whole (X : Cx) (E : XK) (hX : XOk 0 nm_law_whole (defScope s_law_whole) X) (hM : XCm X E) (m_bool : X.mg "bool" = none) (m_int : X.mg "int" = none) (m_isinstance : X.mg "isinstance" = none) (a0 : D) : BC X E ([.d a0] : List B) (defBody s_law_whole) (fun s : Unit => List.replicate 1 B.un) (fun s : Empty => nomatch s) (fun z : Bool => Res.v (D.bl z)) (c_whole a0) := by
  unfold c_whole
  exact (c_chk (fun h5 => (have ⟨c1, c4⟩ := h5; (c_ret (ed_and (ed_isiD (hX.gl lk_law_whole_isinstance) m_isinstance (ed_var 0 (hX.nm rfl) (hX.vs (vis_l lk_law_whole_law_found)) rfl) (ed_ty (n := "int") (hX.gl lk_law_whole_int) m_int (by decide +kernel)) (isi_ok c1 (by decide))) (fun h3 => (have c2 := (c4 h3); (ed_one (ed_not (ed_isiD (hX.gl lk_law_whole_isinstance) m_isinstance (ed_var 0 (hX.nm rfl) (hX.vs (vis_l lk_law_whole_law_found)) rfl) (ed_ty (n := "bool") (hX.gl lk_law_whole_bool) m_bool (by decide +kernel)) (isi_ok c2 (by decide)))))))) rfl))))
abbrev sp_whole (K : PySem.W.Frag) : Sp := spG K (A := D) (fun a => [.d a]) (fun _ => True) (fun a => rsOf (fun z : Bool => Res.v (D.bl z)) (wholeF a))
theorem ok_whole {P : Program} {w : World} {K : PySem.W.Frag} {mg : Str → Option Value} {base : Heap} {f : Addr} {fd : FuncData} (F : Fun K "_law_whole" "_law_whole" s_law_whole f fd) (m_bool : mg "bool" = none) (m_int : mg "int" = none) (m_isinstance : mg "isinstance" = none) : FnOk P w K mg base (L2.CX P w) 1 f fd ["_law_found"] (sp_whole K) :=
  def_okC (A := D) F sc_law_whole .stk (.inl rfl) (fun _ => rfl) (fun a => c_whole a) (fun a X E e1 e2 e3 e4 e5 hX hM => by
    subst e1 e2 e3 e4 e5
    exact bd_whole X E hX hM m_bool m_int m_isinstance a)
abbrev s_law_term_is : Stmt := top 52
abbrev nm_law_term_is : List Str := ["_law_found", "_law_due"]
theorem sc_law_term_is : FnScope nm_law_term_is ["_law_found", "_law_due"] (defScope s_law_term_is) := ⟨rfl, rfl, rfl, by decide +kernel, rfl, by decide +kernel, by decide +kernel⟩
theorem lk_law_term_is_isinstance : (defScope s_law_term_is).names.lookup ("isinstance" : Str) = some .globalImplicit := by decide +kernel
theorem lk_law_term_is_law_due : (defScope s_law_term_is).names.lookup ("_law_due" : Str) = some .local := by decide +kernel
theorem lk_law_term_is_law_found : (defScope s_law_term_is).names.lookup ("_law_found" : Str) = some .local := by decide +kernel
theorem lk_law_term_is_law_whole : (defScope s_law_term_is).names.lookup ("_law_whole" : Str) = some .globalImplicit := by decide +kernel
theorem lk_law_term_is_len : (defScope s_law_term_is).names.lookup ("len" : Str) = some .globalImplicit := by decide +kernel
theorem lk_law_term_is_str : (defScope s_law_term_is).names.lookup ("str" : Str) = some .globalImplicit := by decide +kernel
theorem lk_law_term_is_tuple : (defScope s_law_term_is).names.lookup ("tuple" : Str) = some .globalImplicit := by decide +kernel
noncomputable def c_term_is (a0 : (Int × (List Nat) × Thing)) (a1 : (Int × (List Nat) × Thing)) : Co Unit Empty Bool := chk (((!true) = false → ((!(decide ((3 : Int) = (3 : Int)))) = false → (((wholeF (D.int a0.1))).IsOk)))) (if ((!true) || ((!(decide ((3 : Int) = (3 : Int)))) || ((!((wholeF (D.int a0.1)).get false)) || (!true)))) = true then Co.up (.ret (.ok false)) else if (decide (a1.2.1 = ([110, 117, 109, 98, 101, 114] : List Nat))) = true then Co.up (chk ((((wholeF (encThing a0.2.2))).IsOk)) (.ret (.ok (((wholeF (encThing a0.2.2)).get false) && (decide (a0 = a1)))))) else chk ((plainT (encThing a0.2.2) = true)) (.ret (.ok ((isiD "tuple" (encThing a0.2.2)) && (decide (a0 = a1))))))
noncomputable def termIsF (a0 : (Int × (List Nat) × Thing)) (a1 : (Int × (List Nat) × Thing)) : Out Bool := (c_term_is a0 a1).out .stk
theorem bd_term_is (X : Cx) (E : XK) (hX : XOk 1 nm_law_term_is (defScope s_law_term_is) X) (hM : XCm X E) (m_isinstance : X.mg "isinstance" = none) (m_len : X.mg "len" = none) (m_str : X.mg "str" = none) (m_tuple : X.mg "tuple" = none) (kn_whole : KnX X "_law_whole" 1 (sp_whole X.K)) (a0 : (Int × (List Nat) × Thing)) (a1 : (Int × (List Nat) × Thing)) : BC X E ([.d (D.tup [(D.int a0.1), (D.str a0.2.1), (encThing a0.2.2)]), .d (D.tup [(D.int a1.1), (D.str a1.2.1), (encThing a1.2.2)])] : List B) (defBody s_law_term_is) (fun s : Unit => List.replicate 2 B.un) (fun s : Empty => nomatch s) (fun z : Bool => Res.v (D.bl z)) (c_term_is a0 a1) := by
  unfold c_term_is
  exact (c_chk (fun h15 => (have c6 := h15; (c_ifr (et_w (ew_or (et_not (et_val (ed_isi (hX.gl lk_law_term_is_isinstance) m_isinstance (ed_var 0 (hX.nm rfl) (hX.vs (vis_l lk_law_term_is_law_found)) rfl) (ed_ty (n := "tuple") (hX.gl lk_law_term_is_tuple) m_tuple (by decide +kernel)) rfl (by decide +kernel)))) (fun h5 => (have c4 := (c6 h5); (ew_or (et_cmp (od_neI _ _) (ed_lenTk 3 (hX.gl lk_law_term_is_len) m_len (ed_var 0 (hX.nm rfl) (hX.vs (vis_l lk_law_term_is_law_found)) rfl) rfl) ed_int) (fun h3 => (have c1 := (c4 h3); (ew_or (et_not (et_val (ed_okS (z := D.bl) false (fun E tk => (es_call (E := E) (D.int a0.1) tk kn_whole (hM.room hX (by decide)) (hX.gl lk_law_term_is_law_whole) (ea2_d (ed_ixT (ed_var 0 (hX.nm rfl) (hX.vs (vis_l lk_law_term_is_law_found)) rfl) ed_int rfl) ea2_nil) trivial)) (fun _ => rfl) c1))) (fun h2 => (ew_or1 (et_not (et_val (ed_isi (hX.gl lk_law_term_is_isinstance) m_isinstance (ed_ixT (ed_var 0 (hX.nm rfl) (hX.vs (vis_l lk_law_term_is_law_found)) rfl) ed_int rfl) (ed_ty (n := "str") (hX.gl lk_law_term_is_str) m_str (by decide +kernel)) rfl (by decide +kernel)))))))))))))) (fun h7 => (c_ret ed_bl rfl)) (fun h7 => (c_ifr (et_cmp (od_eqS _ _) (ed_ixT (ed_var 1 (hX.nm rfl) (hX.vs (vis_l lk_law_term_is_law_due)) rfl) ed_int rfl) (ed_str ([110, 117, 109, 98, 101, 114] : List Nat) (by decide +kernel) (by decide))) (fun h8 => (c_chk (fun h11 => (have c9 := h11; (c_ret (ed_and (ed_okS (z := D.bl) false (fun E tk => (es_call (E := E) (encThing a0.2.2) tk kn_whole (hM.room hX (by decide)) (hX.gl lk_law_term_is_law_whole) (ea2_d (ed_ixT (ed_var 0 (hX.nm rfl) (hX.vs (vis_l lk_law_term_is_law_found)) rfl) ed_int rfl) ea2_nil) trivial)) (fun _ => rfl) c9) (fun h10 => (ed_one (ed_cmp (od_eqT (eqT_t3 (eqT_int 7) (eqT_str 7) (eqT_thing 6)) (room64 hX.room) a0 a1) (ed_var 0 (hX.nm rfl) (hX.vs (vis_l lk_law_term_is_law_found)) rfl) (ed_var 1 (hX.nm rfl) (hX.vs (vis_l lk_law_term_is_law_due)) rfl))))) rfl))))) (fun h8 => (c_chk (fun h14 => (have c12 := h14; (c_ret (ed_and (ed_isiD (hX.gl lk_law_term_is_isinstance) m_isinstance (ed_ixT (ed_var 0 (hX.nm rfl) (hX.vs (vis_l lk_law_term_is_law_found)) rfl) ed_int rfl) (ed_ty (n := "tuple") (hX.gl lk_law_term_is_tuple) m_tuple (by decide +kernel)) (isi_ok c12 (by decide))) (fun h13 => (ed_one (ed_cmp (od_eqT (eqT_t3 (eqT_int 7) (eqT_str 7) (eqT_thing 6)) (room64 hX.room) a0 a1) (ed_var 0 (hX.nm rfl) (hX.vs (vis_l lk_law_term_is_law_found)) rfl) (ed_var 1 (hX.nm rfl) (hX.vs (vis_l lk_law_term_is_law_due)) rfl))))) rfl)))))))))))
abbrev sp_term_is (K : PySem.W.Frag) : Sp := spG K (A := (Int × (List Nat) × Thing) × (Int × (List Nat) × Thing)) (fun a => [.d (D.tup [(D.int a.1.1), (D.str a.1.2.1), (encThing a.1.2.2)]), .d (D.tup [(D.int a.2.1), (D.str a.2.2.1), (encThing a.2.2.2)])]) (fun _ => True) (fun a => rsOf (fun z : Bool => Res.v (D.bl z)) (termIsF a.1 a.2))
theorem ok_term_is {P : Program} {w : World} {K : PySem.W.Frag} {mg : Str → Option Value} {base : Heap} {f : Addr} {fd : FuncData} (F : Fun K "_law_term_is" "_law_term_is" s_law_term_is f fd) (m_isinstance : mg "isinstance" = none) (m_len : mg "len" = none) (m_str : mg "str" = none) (m_tuple : mg "tuple" = none) (kn_whole : Kn P w K mg base "_law_whole" 1 (sp_whole K)) : FnOk P w K mg base (L2.CX P w) 2 f fd ["_law_found", "_law_due"] (sp_term_is K) :=
  def_okC (A := (Int × (List Nat) × Thing) × (Int × (List Nat) × Thing)) F sc_law_term_is .stk (.inl rfl) (fun _ => rfl) (fun a => c_term_is a.1 a.2) (fun a X E e1 e2 e3 e4 e5 hX hM => by
    subst e1 e2 e3 e4 e5
    exact bd_term_is X E hX hM m_isinstance m_len m_str m_tuple kn_whole a.1 a.2)
abbrev s_law_terms_are : Stmt := top 53
abbrev nm_law_terms_are : List Str := ["_law_found", "_law_due", "_law_one", "_law_other"]
theorem sc_law_terms_are : FnScope nm_law_terms_are ["_law_found", "_law_due"] (defScope s_law_terms_are) := ⟨rfl, rfl, rfl, by decide +kernel, rfl, by decide +kernel, by decide +kernel⟩
theorem lk_law_terms_are_all : (defScope s_law_terms_are).names.lookup ("all" : Str) = some .globalImplicit := by decide +kernel
theorem lk_law_terms_are_isinstance : (defScope s_law_terms_are).names.lookup ("isinstance" : Str) = some .globalImplicit := by decide +kernel
theorem lk_law_terms_are_law_due : (defScope s_law_terms_are).names.lookup ("_law_due" : Str) = some .local := by decide +kernel
theorem lk_law_terms_are_law_found : (defScope s_law_terms_are).names.lookup ("_law_found" : Str) = some .local := by decide +kernel
theorem lk_law_terms_are_len : (defScope s_law_terms_are).names.lookup ("len" : Str) = some .globalImplicit := by decide +kernel
theorem lk_law_terms_are_list : (defScope s_law_terms_are).names.lookup ("list" : Str) = some .globalImplicit := by decide +kernel
theorem lk_law_terms_are_zip : (defScope s_law_terms_are).names.lookup ("zip" : Str) = some .globalImplicit := by decide +kernel
noncomputable def c_terms_are (a0 : (List (Int × (List Nat) × Thing))) (a1 : (List (Int × (List Nat) × Thing))) : Co Unit Empty Bool := if ((!true) || (!(decide ((a0.length : Int) = (a1.length : Int))))) = true then Co.up (.ret (.ok false)) else chk ((∀ y3 ∈ (List.zip a0 a1), (((termIsF y3.1 y3.2)).IsOk)) ∧ ((List.zip a0 a1).length < sizeLine)) (.ret (.ok ((List.map (fun y3 : ((Int × (List Nat) × Thing) × (Int × (List Nat) × Thing)) => ((termIsF y3.1 y3.2).get false)) (List.zip a0 a1)).all id)))
noncomputable def termsAreF (a0 : (List (Int × (List Nat) × Thing))) (a1 : (List (Int × (List Nat) × Thing))) : Out Bool := (c_terms_are a0 a1).out .stk
theorem bd_terms_are (X : Cx) (E : XK) (hX : XOk 2 nm_law_terms_are (defScope s_law_terms_are) X) (hM : XCm X E) (m_all : X.mg "all" = none) (m_isinstance : X.mg "isinstance" = none) (m_len : X.mg "len" = none) (m_list : X.mg "list" = none) (m_zip : X.mg "zip" = none) (kn_term_is : KnX X "_law_term_is" 2 (sp_term_is X.K)) (a0 : (List (Int × (List Nat) × Thing))) (a1 : (List (Int × (List Nat) × Thing))) : BC X E ([.d (D.lst (List.map (fun z : (Int × (List Nat) × Thing) => (D.tup [(D.int z.1), (D.str z.2.1), (encThing z.2.2)])) a0)), .d (D.lst (List.map (fun z : (Int × (List Nat) × Thing) => (D.tup [(D.int z.1), (D.str z.2.1), (encThing z.2.2)])) a1)), .un, .un] : List B) (defBody s_law_terms_are) (fun s : Unit => List.replicate 4 B.un) (fun s : Empty => nomatch s) (fun z : Bool => Res.v (D.bl z)) (c_terms_are a0 a1) := by
  unfold c_terms_are
  exact (c_ifr (et_w (ew_or (et_not (et_val (ed_isi (hX.gl lk_law_terms_are_isinstance) m_isinstance (ed_var 0 (hX.nm rfl) (hX.vs (vis_l lk_law_terms_are_law_found)) rfl) (ed_ty (n := "list") (hX.gl lk_law_terms_are_list) m_list (by decide +kernel)) rfl (by decide +kernel)))) (fun h1 => (ew_or1 (et_cmp (od_neI _ _) (ed_lenM (hX.gl lk_law_terms_are_len) m_len (EvD.el (ed_var 0 (hX.nm rfl) (hX.vs (vis_l lk_law_terms_are_law_found)) rfl))) (ed_lenM (hX.gl lk_law_terms_are_len) m_len (EvD.el (ed_var 1 (hX.nm rfl) (hX.vs (vis_l lk_law_terms_are_law_due)) rfl)))))))) (fun h2 => (c_ret ed_bl rfl)) (fun h2 => (c_chk (fun h9 => (have ⟨c7, c8⟩ := h9; (c_ret (ed_all hM.calm (hX.gl lk_law_terms_are_all) m_all (EvO.el (eo_lc hM.calm hX.nd (lc_ok0 (Yt := ((Int × (List Nat) × Thing) × (Int × (List Nat) × Thing))) (τ := Bool) (encY := (fun z : ((Int × (List Nat) × Thing) × (Int × (List Nat) × Thing)) => (D.tup [(D.tup [(D.int z.1.1), (D.str z.1.2.1), (encThing z.1.2.2)]), (D.tup [(D.int z.2.1), (D.str z.2.2.1), (encThing z.2.2.2)])]))) (enc := D.bl) (g := (gTup X.K 2 (gCons (gName 2) (gCons (gName 3) gNil)))) (js := [2, 3]) (own := [("_law_one", 2), ("_law_other", 3)]) (List.zip a0 a1) (fun y3 : ((Int × (List Nat) × Thing) × (Int × (List Nat) × Thing)) => ((termIsF y3.1 y3.2).get false)) (it_zipM (enc := (fun z : (Int × (List Nat) × Thing) => (D.tup [(D.int z.1), (D.str z.2.1), (encThing z.2.2)]))) (enc' := (fun z : (Int × (List Nat) × Thing) => (D.tup [(D.int z.1), (D.str z.2.1), (encThing z.2.2)]))) (xs := a0) (zs := a1) (hX.gl lk_law_terms_are_zip) m_zip (ed_var 0 (hX.nm rfl) (hX.vs (vis_l lk_law_terms_are_law_found)) rfl) (ed_var 1 (hX.nm rfl) (hX.vs (vis_l lk_law_terms_are_law_due)) rfl)) (blk_ok hX (by decide +kernel)) (fun _ _ _ _ _ => (pg_tup hM.calm (pgs_cons (pg_name (i := 2) hX.nd (hX.nm rfl) (blk_lc hX (loc_l (by decide +kernel))) (.inr (blk_lk hX (by decide +kernel)))) (pgs_cons (pg_name (i := 3) hX.nd (hX.nm rfl) (blk_lc hX (loc_l (by decide +kernel))) (.inr (blk_lk hX (by decide +kernel)))) pgs_nil)))) (by decide) c8 (fun y3 : ((Int × (List Nat) × Thing) × (Int × (List Nat) × Thing)) => ([.d (D.lst (List.map (fun z : (Int × (List Nat) × Thing) => (D.tup [(D.int z.1), (D.str z.2.1), (encThing z.2.2)])) a0)), .d (D.lst (List.map (fun z : (Int × (List Nat) × Thing) => (D.tup [(D.int z.1), (D.str z.2.1), (encThing z.2.2)])) a1)), .d (D.tup [(D.int y3.1.1), (D.str y3.1.2.1), (encThing y3.1.2.2)]), .d (D.tup [(D.int y3.2.1), (D.str y3.2.2.1), (encThing y3.2.2.2)])] : List B)) (fun y3 _ => (show TgD X.K (gTup X.K 2 (gCons (gName 2) (gCons (gName 3) gNil))) [2, 3] (wipeB ([.d (D.lst (List.map (fun z : (Int × (List Nat) × Thing) => (D.tup [(D.int z.1), (D.str z.2.1), (encThing z.2.2)])) a0)), .d (D.lst (List.map (fun z : (Int × (List Nat) × Thing) => (D.tup [(D.int z.1), (D.str z.2.1), (encThing z.2.2)])) a1)), .un, .un] : List B) [2, 3]) ((fun z : ((Int × (List Nat) × Thing) × (Int × (List Nat) × Thing)) => (D.tup [(D.tup [(D.int z.1.1), (D.str z.1.2.1), (encThing z.1.2.2)]), (D.tup [(D.int z.2.1), (D.str z.2.2.1), (encThing z.2.2.2)])])) y3) ([.d (D.lst (List.map (fun z : (Int × (List Nat) × Thing) => (D.tup [(D.int z.1), (D.str z.2.1), (encThing z.2.2)])) a0)), .d (D.lst (List.map (fun z : (Int × (List Nat) × Thing) => (D.tup [(D.int z.1), (D.str z.2.1), (encThing z.2.2)])) a1)), .d (D.tup [(D.int y3.1.1), (D.str y3.1.2.1), (encThing y3.1.2.2)]), .d (D.tup [(D.int y3.2.1), (D.str y3.2.2.1), (encThing y3.2.2.2)])] : List B) from (tg_tup (tgs_cons 2 (tgs_cons 3 tgs_nil)) rfl))) (fun y3 hy4 _ _ _ _ _ => (have c6 := (c7 y3 hy4); (ed_okS (z := D.bl) false (fun E tk => (es_call (E := E) ((y3.1, y3.2) : (Int × (List Nat) × Thing) × (Int × (List Nat) × Thing)) tk kn_term_is (hM.room hX (by decide)) (blk_gl hX (by decide +kernel)) (ea2_d (ed_var 2 (hX.nm rfl) (blk_vs hX (vis_l (by decide +kernel))) rfl) (ea2_d (ed_var 3 (hX.nm rfl) (blk_vs hX (vis_l (by decide +kernel))) rfl) ea2_nil)) trivial)) (fun _ => rfl) c6))))))) rfl))))))
abbrev sp_terms_are (K : PySem.W.Frag) : Sp := spG K (A := (List (Int × (List Nat) × Thing)) × (List (Int × (List Nat) × Thing))) (fun a => [.d (D.lst (List.map (fun z : (Int × (List Nat) × Thing) => (D.tup [(D.int z.1), (D.str z.2.1), (encThing z.2.2)])) a.1)), .d (D.lst (List.map (fun z : (Int × (List Nat) × Thing) => (D.tup [(D.int z.1), (D.str z.2.1), (encThing z.2.2)])) a.2))]) (fun _ => True) (fun a => rsOf (fun z : Bool => Res.v (D.bl z)) (termsAreF a.1 a.2))
theorem ok_terms_are {P : Program} {w : World} {K : PySem.W.Frag} {mg : Str → Option Value} {base : Heap} {f : Addr} {fd : FuncData} (F : Fun K "_law_terms_are" "_law_terms_are" s_law_terms_are f fd) (m_all : mg "all" = none) (m_isinstance : mg "isinstance" = none) (m_len : mg "len" = none) (m_list : mg "list" = none) (m_zip : mg "zip" = none) (kn_term_is : Kn P w K mg base "_law_term_is" 2 (sp_term_is K)) : FnOk P w K mg base (L2.CX P w) 3 f fd ["_law_found", "_law_due"] (sp_terms_are K) :=
  def_okC (A := (List (Int × (List Nat) × Thing)) × (List (Int × (List Nat) × Thing))) F sc_law_terms_are .stk (.inl rfl) (fun _ => rfl) (fun a => c_terms_are a.1 a.2) (fun a X E e1 e2 e3 e4 e5 hX hM => by
    subst e1 e2 e3 e4 e5
    exact bd_terms_are X E hX hM m_all m_isinstance m_len m_list m_zip kn_term_is a.1 a.2)
abbrev s_law_says : Stmt := top 55
abbrev nm_law_says : List Str := ["_law_found", "_law_row_here", "_law_due", "_law_binds", "_law_asked", "_law_said_here"]
theorem sc_law_says : FnScope nm_law_says ["_law_found", "_law_row_here"] (defScope s_law_says) := ⟨rfl, rfl, rfl, by decide +kernel, rfl, by decide +kernel, by decide +kernel⟩
theorem lk_law_says_int : (defScope s_law_says).names.lookup ("int" : Str) = some .globalImplicit := by decide +kernel
theorem lk_law_says_isinstance : (defScope s_law_says).names.lookup ("isinstance" : Str) = some .globalImplicit := by decide +kernel
theorem lk_law_says_law_asked : (defScope s_law_says).names.lookup ("_law_asked" : Str) = some .local := by decide +kernel
theorem lk_law_says_law_binds : (defScope s_law_says).names.lookup ("_law_binds" : Str) = some .local := by decide +kernel
theorem lk_law_says_law_due : (defScope s_law_says).names.lookup ("_law_due" : Str) = some .local := by decide +kernel
theorem lk_law_says_law_found : (defScope s_law_says).names.lookup ("_law_found" : Str) = some .local := by decide +kernel
theorem lk_law_says_law_row_here : (defScope s_law_says).names.lookup ("_law_row_here" : Str) = some .local := by decide +kernel
theorem lk_law_says_law_said : (defScope s_law_says).names.lookup ("_law_said" : Str) = some .globalImplicit := by decide +kernel
theorem lk_law_says_law_said_here : (defScope s_law_says).names.lookup ("_law_said_here" : Str) = some .local := by decide +kernel
theorem lk_law_says_list : (defScope s_law_says).names.lookup ("list" : Str) = some .globalImplicit := by decide +kernel
theorem lk_law_says_str : (defScope s_law_says).names.lookup ("str" : Str) = some .globalImplicit := by decide +kernel
noncomputable def c_says (a0 : RowT) (a1 : ((List Nat) × (List Nat) × (List Nat) × (List Nat) × (List (Int × (List Nat) × Thing)))) : Co Unit Empty Bool := chk ((-(2 ^ 63) ≤ (if (decide (a1.1 ∈ ([(([100, 114, 97, 119] : List Nat), ([108, 97, 116, 101] : List Nat), ([116, 97, 107, 101] : List Nat)).1, (([100, 114, 97, 119] : List Nat), ([108, 97, 116, 101] : List Nat), ([116, 97, 107, 101] : List Nat)).2.1, (([100, 114, 97, 119] : List Nat), ([108, 97, 116, 101] : List Nat), ([116, 97, 107, 101] : List Nat)).2.2] : List (List Nat)))) = true then 1 else 0 : Int) ∧ (if (decide (a1.1 ∈ ([(([100, 114, 97, 119] : List Nat), ([108, 97, 116, 101] : List Nat), ([116, 97, 107, 101] : List Nat)).1, (([100, 114, 97, 119] : List Nat), ([108, 97, 116, 101] : List Nat), ([116, 97, 107, 101] : List Nat)).2.1, (([100, 114, 97, 119] : List Nat), ([108, 97, 116, 101] : List Nat), ([116, 97, 107, 101] : List Nat)).2.2] : List (List Nat)))) = true then 1 else 0 : Int) < 2 ^ 63) ∧ (([a1.2.2.1] : List (List Nat)).length * ((if (decide (a1.1 ∈ ([(([100, 114, 97, 119] : List Nat), ([108, 97, 116, 101] : List Nat), ([116, 97, 107, 101] : List Nat)).1, (([100, 114, 97, 119] : List Nat), ([108, 97, 116, 101] : List Nat), ([116, 97, 107, 101] : List Nat)).2.1, (([100, 114, 97, 119] : List Nat), ([108, 97, 116, 101] : List Nat), ([116, 97, 107, 101] : List Nat)).2.2] : List (List Nat)))) = true then 1 else 0 : Int)).toNat ≤ sizeLine)) (bnd ((List.replicate ((if (decide (a1.1 ∈ ([(([100, 114, 97, 119] : List Nat), ([108, 97, 116, 101] : List Nat), ([116, 97, 107, 101] : List Nat)).1, (([100, 114, 97, 119] : List Nat), ([108, 97, 116, 101] : List Nat), ([116, 97, 107, 101] : List Nat)).2.1, (([100, 114, 97, 119] : List Nat), ([108, 97, 116, 101] : List Nat), ([116, 97, 107, 101] : List Nat)).2.2] : List (List Nat)))) = true then 1 else 0 : Int)).toNat ([a1.2.2.1] : List (List Nat))).flatten : (List (List Nat))) fun v1 => bndO ((RowT.M_binds a0) : Out (List Nat)) fun v4 => bndO ((RowT.M_asked a0) : Out (List (List Nat))) fun v5 => bndO ((RowT.M_said a0) : Out (List Nat)) fun v6 => if ((!true) || ((!(decide (v4 = a1.2.1))) || ((!true) || (!(decide (v5 = v1)))))) = true then Co.up (.ret (.ok false)) else chk ((v5.length < sizeLine)) (bnd (v5 ++ [([97] : List Nat)] : (List (List Nat))) fun v11 => chk ((true = true → (((saidF a1)).IsOk) ∧ ((decide (v6 = ((saidF a1).get []))) = true → (((RowT.M_asked a0)).IsOk)))) (.ret (.ok (true && ((decide (v6 = ((saidF a1).get []))) && (decide (((RowT.M_asked a0).get []) = v1))))))))
noncomputable def saysF (a0 : RowT) (a1 : ((List Nat) × (List Nat) × (List Nat) × (List Nat) × (List (Int × (List Nat) × Thing)))) : Out Bool := (c_says a0 a1).out .stk
theorem bd_says (X : Cx) (E : XK) (hX : XOk 3 nm_law_says (defScope s_law_says) X) (hM : XCm X E) (m_int : X.mg "int" = none) (m_isinstance : X.mg "isinstance" = none) (m_list : X.mg "list" = none) (m_str : X.mg "str" = none) (kn_Deed_asked : MethX X "Deed" "asked" 1 (sp_Deed_asked X.K)) (kn_Deed_binds : MethX X "Deed" "binds" 1 (sp_Deed_binds X.K)) (kn_Deed_said : MethX X "Deed" "said" 3 (sp_Deed_said X.K)) (kn_Draw_asked : MethX X "Draw" "asked" 1 (sp_Draw_asked X.K)) (kn_Draw_binds : MethX X "Draw" "binds" 1 (sp_Draw_binds X.K)) (kn_Draw_said : MethX X "Draw" "said" 1 (sp_Draw_said X.K)) (kn_Late_asked : MethX X "Late" "asked" 1 (sp_Late_asked X.K)) (kn_Late_binds : MethX X "Late" "binds" 1 (sp_Late_binds X.K)) (kn_Late_said : MethX X "Late" "said" 1 (sp_Late_said X.K)) (kn_Let_asked : MethX X "Let" "asked" 1 (sp_Let_asked X.K)) (kn_Let_binds : MethX X "Let" "binds" 1 (sp_Let_binds X.K)) (kn_Let_said : MethX X "Let" "said" 3 (sp_Let_said X.K)) (kn_Need_asked : MethX X "Need" "asked" 1 (sp_Need_asked X.K)) (kn_Need_binds : MethX X "Need" "binds" 1 (sp_Need_binds X.K)) (kn_Need_said : MethX X "Need" "said" 3 (sp_Need_said X.K)) (kn_Take_asked : MethX X "Take" "asked" 1 (sp_Take_asked X.K)) (kn_Take_binds : MethX X "Take" "binds" 1 (sp_Take_binds X.K)) (kn_Take_said : MethX X "Take" "said" 1 (sp_Take_said X.K)) (kn_lsaid : KnX X "_law_said" 3 (sp_lsaid X.K)) (a0 : RowT) (a1 : ((List Nat) × (List Nat) × (List Nat) × (List Nat) × (List (Int × (List Nat) × Thing)))) : BC X E ([.d (encRow a0), .d (D.tup [(D.str a1.1), (D.str a1.2.1), (D.str a1.2.2.1), (D.str a1.2.2.2.1), (D.lst (List.map (fun z : (Int × (List Nat) × Thing) => (D.tup [(D.int z.1), (D.str z.2.1), (encThing z.2.2)])) a1.2.2.2.2))]), .un, .un, .un, .un] : List B) (defBody s_law_says) (fun s : Unit => List.replicate 6 B.un) (fun s : Empty => nomatch s) (fun z : Bool => Res.v (D.bl z)) (c_says a0 a1) := by
  unfold c_says
  exact (c_chk (fun h21 => (have ⟨c2, c3⟩ := h21; (c_setO 2 (fun z : (List (List Nat)) => OO.lst (List.map D.str z)) hX rfl (loc_l lk_law_says_law_due) (eo_repM (EvO.el (eo_lst (ea_cons (ed_ixT (ed_var 1 (hX.nm rfl) (hX.vs (vis_l lk_law_says_law_row_here)) rfl) ed_int rfl) ea_nil) (by show 1 ≤ sizeLine; decide))) (ed_intB (hX.gl lk_law_says_int) m_int (ed_cmp (od_inT _ ([(([100, 114, 97, 119] : List Nat), ([108, 97, 116, 101] : List Nat), ([116, 97, 107, 101] : List Nat)).1, (([100, 114, 97, 119] : List Nat), ([108, 97, 116, 101] : List Nat), ([116, 97, 107, 101] : List Nat)).2.1, (([100, 114, 97, 119] : List Nat), ([108, 97, 116, 101] : List Nat), ([116, 97, 107, 101] : List Nat)).2.2] : List (List Nat))) (ed_ixT (ed_var 1 (hX.nm rfl) (hX.vs (vis_l lk_law_says_law_row_here)) rfl) ed_int rfl) (ed_tup (ea_cons (ed_str ([100, 114, 97, 119] : List Nat) (by decide +kernel) (by decide)) (ea_cons (ed_str ([108, 97, 116, 101] : List Nat) (by decide +kernel) (by decide)) (ea_cons (ed_str ([116, 97, 107, 101] : List Nat) (by decide +kernel) (by decide)) ea_nil))) (by show 3 ≤ sizeLine; decide)))) c2 c3) (fun v1 hv1 => (show BC X E ([.d (encRow a0), .d (D.tup [(D.str a1.1), (D.str a1.2.1), (D.str a1.2.2.1), (D.str a1.2.2.2.1), (D.lst (List.map (fun z : (Int × (List Nat) × Thing) => (D.tup [(D.int z.1), (D.str z.2.1), (encThing z.2.2)])) a1.2.2.2.2))]), .own (.lst (List.map D.str v1)), .un, .un, .un] : List B) _ _ _ _ _ from (c_setR 3 D.str hX rfl (loc_l lk_law_says_law_binds) (RowT.meth_binds (E := (fun _ => E)) kn_Let_binds kn_Deed_binds kn_Draw_binds kn_Late_binds kn_Take_binds kn_Need_binds hM.pass (hM.room hX (by decide)) a0 (ed_var 0 (hX.nm rfl) (hX.vs (vis_l lk_law_says_law_found)) rfl) rfl) (fun v4 => (show BC X E ([.d (encRow a0), .d (D.tup [(D.str a1.1), (D.str a1.2.1), (D.str a1.2.2.1), (D.str a1.2.2.2.1), (D.lst (List.map (fun z : (Int × (List Nat) × Thing) => (D.tup [(D.int z.1), (D.str z.2.1), (encThing z.2.2)])) a1.2.2.2.2))]), .own (.lst (List.map D.str v1)), .d (D.str v4), .un, .un] : List B) _ _ _ _ _ from (c_setRO 4 (fun z : (List (List Nat)) => OO.lst (List.map D.str z)) hX rfl (loc_l lk_law_says_law_asked) (RowT.meth_asked (E := (fun _ => E)) kn_Let_asked kn_Deed_asked kn_Draw_asked kn_Late_asked kn_Take_asked kn_Need_asked hM.pass (hM.room hX (by decide)) a0 (ed_var 0 (hX.nm rfl) (hX.vs (vis_l lk_law_says_law_found)) rfl) rfl) (fun v5 => (show BC X E ([.d (encRow a0), .d (D.tup [(D.str a1.1), (D.str a1.2.1), (D.str a1.2.2.1), (D.str a1.2.2.2.1), (D.lst (List.map (fun z : (Int × (List Nat) × Thing) => (D.tup [(D.int z.1), (D.str z.2.1), (encThing z.2.2)])) a1.2.2.2.2))]), .own (.lst (List.map D.str v1)), .d (D.str v4), .own (.lst (List.map D.str v5)), .un] : List B) _ _ _ _ _ from (c_setR 5 D.str hX rfl (loc_l lk_law_says_law_said_here) (RowT.meth_said (E := (fun _ => E)) kn_Let_said kn_Deed_said kn_Draw_said kn_Late_said kn_Take_said kn_Need_said hM.pass (hM.room hX (by decide)) a0 (ed_var 0 (hX.nm rfl) (hX.vs (vis_l lk_law_says_law_found)) rfl) rfl) (fun v6 => (show BC X E ([.d (encRow a0), .d (D.tup [(D.str a1.1), (D.str a1.2.1), (D.str a1.2.2.1), (D.str a1.2.2.2.1), (D.lst (List.map (fun z : (Int × (List Nat) × Thing) => (D.tup [(D.int z.1), (D.str z.2.1), (encThing z.2.2)])) a1.2.2.2.2))]), .own (.lst (List.map D.str v1)), .d (D.str v4), .own (.lst (List.map D.str v5)), .d (D.str v6)] : List B) _ _ _ _ _ from (c_ifr (et_lend 4 rfl (show ET X ([.d (encRow a0), .d (D.tup [(D.str a1.1), (D.str a1.2.1), (D.str a1.2.2.1), (D.str a1.2.2.2.1), (D.lst (List.map (fun z : (Int × (List Nat) × Thing) => (D.tup [(D.int z.1), (D.str z.2.1), (encThing z.2.2)])) a1.2.2.2.2))]), .own (.lst (List.map D.str v1)), .d (D.str v4), .d (D.lst (List.map D.str v5)), .d (D.str v6)] : List B) _ _ from (et_lend 2 rfl (show ET X ([.d (encRow a0), .d (D.tup [(D.str a1.1), (D.str a1.2.1), (D.str a1.2.2.1), (D.str a1.2.2.2.1), (D.lst (List.map (fun z : (Int × (List Nat) × Thing) => (D.tup [(D.int z.1), (D.str z.2.1), (encThing z.2.2)])) a1.2.2.2.2))]), .d (D.lst (List.map D.str v1)), .d (D.str v4), .d (D.lst (List.map D.str v5)), .d (D.str v6)] : List B) _ _ from (et_w (ew_or (et_not (et_val (ed_isi (hX.gl lk_law_says_isinstance) m_isinstance (ed_var 3 (hX.nm rfl) (hX.vs (vis_l lk_law_says_law_binds)) rfl) (ed_ty (n := "str") (hX.gl lk_law_says_str) m_str (by decide +kernel)) rfl (by decide +kernel)))) (fun h9 => (ew_or (et_cmp (od_neS _ _) (ed_var 3 (hX.nm rfl) (hX.vs (vis_l lk_law_says_law_binds)) rfl) (ed_ixT (ed_var 1 (hX.nm rfl) (hX.vs (vis_l lk_law_says_law_row_here)) rfl) ed_int rfl)) (fun h8 => (ew_or (et_not (et_val (ed_isi (hX.gl lk_law_says_isinstance) m_isinstance (ed_var 4 (hX.nm rfl) (hX.vs (vis_l lk_law_says_law_asked)) rfl) (ed_ty (n := "list") (hX.gl lk_law_says_list) m_list (by decide +kernel)) rfl (by decide +kernel)))) (fun h7 => (ew_or1 (et_cmp (od_neT (eqT_lst (eqT_str 7)) (room64 hX.room) v5 v1) (ed_var 4 (hX.nm rfl) (hX.vs (vis_l lk_law_says_law_asked)) rfl) (ed_var 2 (hX.nm rfl) (hX.vs (vis_l lk_law_says_law_due)) rfl)))))))))))))) (fun h10 => (c_ret ed_bl rfl)) (fun h10 => (c_chk (fun h20 => (have c12 := h20; (c_app 4 D.str hX rfl (vis_l lk_law_says_law_asked) rfl (ed_str ([97] : List Nat) (by decide +kernel) (by decide)) c12 (fun v11 hv11 => (show BC X E ([.d (encRow a0), .d (D.tup [(D.str a1.1), (D.str a1.2.1), (D.str a1.2.2.1), (D.str a1.2.2.2.1), (D.lst (List.map (fun z : (Int × (List Nat) × Thing) => (D.tup [(D.int z.1), (D.str z.2.1), (encThing z.2.2)])) a1.2.2.2.2))]), .own (.lst (List.map D.str v1)), .d (D.str v4), .own (.lst (List.map D.str v11)), .d (D.str v6)] : List B) _ _ _ _ _ from (c_chk (fun h19 => (have c18 := h19; (c_ret (ed_lend 2 rfl rfl (show ED X ([.d (encRow a0), .d (D.tup [(D.str a1.1), (D.str a1.2.1), (D.str a1.2.2.1), (D.str a1.2.2.2.1), (D.lst (List.map (fun z : (Int × (List Nat) × Thing) => (D.tup [(D.int z.1), (D.str z.2.1), (encThing z.2.2)])) a1.2.2.2.2))]), .d (D.lst (List.map D.str v1)), .d (D.str v4), .own (.lst (List.map D.str v11)), .d (D.str v6)] : List B) _ _ from (ed_and (ed_isi (hX.gl lk_law_says_isinstance) m_isinstance (ed_var 5 (hX.nm rfl) (hX.vs (vis_l lk_law_says_law_said_here)) rfl) (ed_ty (n := "str") (hX.gl lk_law_says_str) m_str (by decide +kernel)) rfl (by decide +kernel)) (fun h17 => (have ⟨c13, c16⟩ := (c18 h17); (ed_and (ed_cmp (od_eqS _ _) (ed_var 5 (hX.nm rfl) (hX.vs (vis_l lk_law_says_law_said_here)) rfl) (ed_okS (z := D.str) [] (fun E tk => (es_call (E := E) a1 tk kn_lsaid (hM.room hX (by decide)) (hX.gl lk_law_says_law_said) (ea2_d (ed_var 1 (hX.nm rfl) (hX.vs (vis_l lk_law_says_law_row_here)) rfl) ea2_nil) trivial)) (fun _ => rfl) c13)) (fun h15 => (have c14 := (c16 h15); (ed_one (ed_cmp (od_eqT (eqT_lst (eqT_str 7)) (room64 hX.room) ((RowT.M_asked a0).get []) v1) (EvO.frz (eo_okS (z := fun z : (List (List Nat)) => OO.lst (List.map D.str z)) [] (fun E tk => (RowT.meth_asked (E := E) kn_Let_asked kn_Deed_asked kn_Draw_asked kn_Late_asked kn_Take_asked kn_Need_asked tk (hM.room hX (by decide)) a0 (ed_var 0 (hX.nm rfl) (hX.vs (vis_l lk_law_says_law_found)) rfl) rfl)) (fun _ => rfl) c14)) (ed_var 2 (hX.nm rfl) (hX.vs (vis_l lk_law_says_law_due)) rfl))))))))))) rfl)))))))))))))))))))))))))))
abbrev sp_says (K : PySem.W.Frag) : Sp := spG K (A := RowT × ((List Nat) × (List Nat) × (List Nat) × (List Nat) × (List (Int × (List Nat) × Thing)))) (fun a => [.d (encRow a.1), .d (D.tup [(D.str a.2.1), (D.str a.2.2.1), (D.str a.2.2.2.1), (D.str a.2.2.2.2.1), (D.lst (List.map (fun z : (Int × (List Nat) × Thing) => (D.tup [(D.int z.1), (D.str z.2.1), (encThing z.2.2)])) a.2.2.2.2.2))])]) (fun _ => True) (fun a => rsOf (fun z : Bool => Res.v (D.bl z)) (saysF a.1 a.2))
theorem ok_says {P : Program} {w : World} {K : PySem.W.Frag} {mg : Str → Option Value} {base : Heap} {f : Addr} {fd : FuncData} (F : Fun K "_law_says" "_law_says" s_law_says f fd) (m_int : mg "int" = none) (m_isinstance : mg "isinstance" = none) (m_list : mg "list" = none) (m_str : mg "str" = none) (kn_Deed_asked : Mth P w K mg base "Deed" "asked" 1 (sp_Deed_asked K)) (kn_Deed_binds : Mth P w K mg base "Deed" "binds" 1 (sp_Deed_binds K)) (kn_Deed_said : Mth P w K mg base "Deed" "said" 3 (sp_Deed_said K)) (kn_Draw_asked : Mth P w K mg base "Draw" "asked" 1 (sp_Draw_asked K)) (kn_Draw_binds : Mth P w K mg base "Draw" "binds" 1 (sp_Draw_binds K)) (kn_Draw_said : Mth P w K mg base "Draw" "said" 1 (sp_Draw_said K)) (kn_Late_asked : Mth P w K mg base "Late" "asked" 1 (sp_Late_asked K)) (kn_Late_binds : Mth P w K mg base "Late" "binds" 1 (sp_Late_binds K)) (kn_Late_said : Mth P w K mg base "Late" "said" 1 (sp_Late_said K)) (kn_Let_asked : Mth P w K mg base "Let" "asked" 1 (sp_Let_asked K)) (kn_Let_binds : Mth P w K mg base "Let" "binds" 1 (sp_Let_binds K)) (kn_Let_said : Mth P w K mg base "Let" "said" 3 (sp_Let_said K)) (kn_Need_asked : Mth P w K mg base "Need" "asked" 1 (sp_Need_asked K)) (kn_Need_binds : Mth P w K mg base "Need" "binds" 1 (sp_Need_binds K)) (kn_Need_said : Mth P w K mg base "Need" "said" 3 (sp_Need_said K)) (kn_Take_asked : Mth P w K mg base "Take" "asked" 1 (sp_Take_asked K)) (kn_Take_binds : Mth P w K mg base "Take" "binds" 1 (sp_Take_binds K)) (kn_Take_said : Mth P w K mg base "Take" "said" 1 (sp_Take_said K)) (kn_lsaid : Kn P w K mg base "_law_said" 3 (sp_lsaid K)) : FnOk P w K mg base (L2.CX P w) 4 f fd ["_law_found", "_law_row_here"] (sp_says K) :=
  def_okC (A := RowT × ((List Nat) × (List Nat) × (List Nat) × (List Nat) × (List (Int × (List Nat) × Thing)))) F sc_law_says .stk (.inl rfl) (fun _ => rfl) (fun a => c_says a.1 a.2) (fun a X E e1 e2 e3 e4 e5 hX hM => by
    subst e1 e2 e3 e4 e5
    exact bd_says X E hX hM m_int m_isinstance m_list m_str kn_Deed_asked kn_Deed_binds kn_Deed_said kn_Draw_asked kn_Draw_binds kn_Draw_said kn_Late_asked kn_Late_binds kn_Late_said kn_Let_asked kn_Let_binds kn_Let_said kn_Need_asked kn_Need_binds kn_Need_said kn_Take_asked kn_Take_binds kn_Take_said kn_lsaid a.1 a.2)
abbrev s_law_is : Stmt := top 54
abbrev nm_law_is : List Str := ["_law_found", "_law_row_here", "_law_sort", "_law_name_here", "_law_address_here", "_law_word_here", "_law_terms_here", "_law_flags", "_law_due", "_law_one"]
theorem sc_law_is : FnScope nm_law_is ["_law_found", "_law_row_here"] (defScope s_law_is) := ⟨rfl, rfl, rfl, by decide +kernel, rfl, by decide +kernel, by decide +kernel⟩
theorem lk_law_is_Deed : (defScope s_law_is).names.lookup ("Deed" : Str) = some .globalImplicit := by decide +kernel
theorem lk_law_is_Draw : (defScope s_law_is).names.lookup ("Draw" : Str) = some .globalImplicit := by decide +kernel
theorem lk_law_is_Late : (defScope s_law_is).names.lookup ("Late" : Str) = some .globalImplicit := by decide +kernel
theorem lk_law_is_Let : (defScope s_law_is).names.lookup ("Let" : Str) = some .globalImplicit := by decide +kernel
theorem lk_law_is_Need : (defScope s_law_is).names.lookup ("Need" : Str) = some .globalImplicit := by decide +kernel
theorem lk_law_is_Row : (defScope s_law_is).names.lookup ("Row" : Str) = some .globalImplicit := by decide +kernel
theorem lk_law_is_Take : (defScope s_law_is).names.lookup ("Take" : Str) = some .globalImplicit := by decide +kernel
theorem lk_law_is_isinstance : (defScope s_law_is).names.lookup ("isinstance" : Str) = some .globalImplicit := by decide +kernel
theorem lk_law_is_law_address_here : (defScope s_law_is).names.lookup ("_law_address_here" : Str) = some .local := by decide +kernel
theorem lk_law_is_law_due : (defScope s_law_is).names.lookup ("_law_due" : Str) = some .local := by decide +kernel
theorem lk_law_is_law_flags : (defScope s_law_is).names.lookup ("_law_flags" : Str) = some .local := by decide +kernel
theorem lk_law_is_law_found : (defScope s_law_is).names.lookup ("_law_found" : Str) = some .local := by decide +kernel
theorem lk_law_is_law_name_here : (defScope s_law_is).names.lookup ("_law_name_here" : Str) = some .local := by decide +kernel
theorem lk_law_is_law_row_here : (defScope s_law_is).names.lookup ("_law_row_here" : Str) = some .local := by decide +kernel
theorem lk_law_is_law_says : (defScope s_law_is).names.lookup ("_law_says" : Str) = some .globalImplicit := by decide +kernel
theorem lk_law_is_law_sort : (defScope s_law_is).names.lookup ("_law_sort" : Str) = some .cell := by decide +kernel
theorem lk_law_is_law_terms_are : (defScope s_law_is).names.lookup ("_law_terms_are" : Str) = some .globalImplicit := by decide +kernel
theorem lk_law_is_law_terms_here : (defScope s_law_is).names.lookup ("_law_terms_here" : Str) = some .local := by decide +kernel
theorem lk_law_is_law_word_here : (defScope s_law_is).names.lookup ("_law_word_here" : Str) = some .local := by decide +kernel
theorem lk_law_is_str : (defScope s_law_is).names.lookup ("str" : Str) = some .globalImplicit := by decide +kernel
noncomputable def c_is (a0 : RowT) (a1 : ((List Nat) × (List Nat) × (List Nat) × (List Nat) × (List (Int × (List Nat) × Thing)))) : Co Unit Empty Bool := bnd (a1 : ((List Nat) × (List Nat) × (List Nat) × (List Nat) × (List (Int × (List Nat) × Thing)))) fun v1 => bnd (([(RowT.is_Let a0), (RowT.is_Deed a0), (RowT.is_Draw a0), (RowT.is_Late a0)] : List Bool) : (List Bool)) fun v2 => chk ((v2.length + ([(RowT.is_Take a0), (RowT.is_Need a0)] : List Bool).length ≤ sizeLine)) (bnd ((v2 ++ ([(RowT.is_Take a0), (RowT.is_Need a0)] : List Bool)) : (List Bool)) fun v3 => chk ((([(([108, 101, 116] : List Nat), ([100, 101, 101, 100] : List Nat), ([100, 114, 97, 119] : List Nat), ([108, 97, 116, 101] : List Nat), ([116, 97, 107, 101] : List Nat), ([110, 101, 101, 100] : List Nat)).1, (([108, 101, 116] : List Nat), ([100, 101, 101, 100] : List Nat), ([100, 114, 97, 119] : List Nat), ([108, 97, 116, 101] : List Nat), ([116, 97, 107, 101] : List Nat), ([110, 101, 101, 100] : List Nat)).2.1, (([108, 101, 116] : List Nat), ([100, 101, 101, 100] : List Nat), ([100, 114, 97, 119] : List Nat), ([108, 97, 116, 101] : List Nat), ([116, 97, 107, 101] : List Nat), ([110, 101, 101, 100] : List Nat)).2.2.1, (([108, 101, 116] : List Nat), ([100, 101, 101, 100] : List Nat), ([100, 114, 97, 119] : List Nat), ([108, 97, 116, 101] : List Nat), ([116, 97, 107, 101] : List Nat), ([110, 101, 101, 100] : List Nat)).2.2.2.1, (([108, 101, 116] : List Nat), ([100, 101, 101, 100] : List Nat), ([100, 114, 97, 119] : List Nat), ([108, 97, 116, 101] : List Nat), ([116, 97, 107, 101] : List Nat), ([110, 101, 101, 100] : List Nat)).2.2.2.2.1, (([108, 101, 116] : List Nat), ([100, 101, 101, 100] : List Nat), ([100, 114, 97, 119] : List Nat), ([108, 97, 116, 101] : List Nat), ([116, 97, 107, 101] : List Nat), ([110, 101, 101, 100] : List Nat)).2.2.2.2.2] : List (List Nat)).length < sizeLine)) (bnd ((List.map (fun y6 : (List Nat) => (decide (v1.1 = y6))) ([(([108, 101, 116] : List Nat), ([100, 101, 101, 100] : List Nat), ([100, 114, 97, 119] : List Nat), ([108, 97, 116, 101] : List Nat), ([116, 97, 107, 101] : List Nat), ([110, 101, 101, 100] : List Nat)).1, (([108, 101, 116] : List Nat), ([100, 101, 101, 100] : List Nat), ([100, 114, 97, 119] : List Nat), ([108, 97, 116, 101] : List Nat), ([116, 97, 107, 101] : List Nat), ([110, 101, 101, 100] : List Nat)).2.1, (([108, 101, 116] : List Nat), ([100, 101, 101, 100] : List Nat), ([100, 114, 97, 119] : List Nat), ([108, 97, 116, 101] : List Nat), ([116, 97, 107, 101] : List Nat), ([110, 101, 101, 100] : List Nat)).2.2.1, (([108, 101, 116] : List Nat), ([100, 101, 101, 100] : List Nat), ([100, 114, 97, 119] : List Nat), ([108, 97, 116, 101] : List Nat), ([116, 97, 107, 101] : List Nat), ([110, 101, 101, 100] : List Nat)).2.2.2.1, (([108, 101, 116] : List Nat), ([100, 101, 101, 100] : List Nat), ([100, 114, 97, 119] : List Nat), ([108, 97, 116, 101] : List Nat), ([116, 97, 107, 101] : List Nat), ([110, 101, 101, 100] : List Nat)).2.2.2.2.1, (([108, 101, 116] : List Nat), ([100, 101, 101, 100] : List Nat), ([100, 114, 97, 119] : List Nat), ([108, 97, 116, 101] : List Nat), ([116, 97, 107, 101] : List Nat), ([110, 101, 101, 100] : List Nat)).2.2.2.2.2] : List (List Nat))) : (List Bool)) fun v5 => chk (((!(RowT.is_Row a0)) = false → ((!(decide (v3 = v5))) = false → (((saysF a0 a1)).IsOk)))) (if ((!(RowT.is_Row a0)) || ((!(decide (v3 = v5))) || (!((saysF a0 a1).get false)))) = true then Co.up (.ret (.ok false)) else chk (((!(decide (v1.1 = ([110, 101, 101, 100] : List Nat)))) = true → (RowT.H_name a0 = true) ∧ ((!true) = false → (RowT.H_name a0 = true)))) (if ((!(decide (v1.1 = ([110, 101, 101, 100] : List Nat)))) && ((!true) || (!(decide ((RowT.R_name a0) = v1.2.1))))) = true then Co.up (.ret (.ok false)) else chk (((decide (v1.1 = ([116, 97, 107, 101] : List Nat))) = true → (RowT.H_word a0 = true) ∧ ((!true) = false → (RowT.H_word a0 = true)))) (if ((decide (v1.1 = ([116, 97, 107, 101] : List Nat))) && ((!true) || (!(decide ((RowT.R_word a0) = v1.2.2.2.1))))) = true then Co.up (.ret (.ok false)) else if (decide (v1.1 ∈ ([(([100, 114, 97, 119] : List Nat), ([108, 97, 116, 101] : List Nat), ([116, 97, 107, 101] : List Nat)).1, (([100, 114, 97, 119] : List Nat), ([108, 97, 116, 101] : List Nat), ([116, 97, 107, 101] : List Nat)).2.1, (([100, 114, 97, 119] : List Nat), ([108, 97, 116, 101] : List Nat), ([116, 97, 107, 101] : List Nat)).2.2] : List (List Nat)))) = true then Co.up (chk ((RowT.H_address a0 = true) ∧ (true = true → (RowT.H_address a0 = true))) (.ret (.ok (true && (decide ((RowT.R_address a0) = v1.2.2.1)))))) else chk ((RowT.H_terms a0 = true)) (.ret (termsAreF (RowT.R_terms a0) v1.2.2.2.2)))))))
noncomputable def isF (a0 : RowT) (a1 : ((List Nat) × (List Nat) × (List Nat) × (List Nat) × (List (Int × (List Nat) × Thing)))) : Out Bool := (c_is a0 a1).out .stk
theorem bd_is (X : Cx) (E : XK) (hX : XOk 4 nm_law_is (defScope s_law_is) X) (hM : XCm X E) (m_isinstance : X.mg "isinstance" = none) (m_str : X.mg "str" = none) (kn_says : KnX X "_law_says" 4 (sp_says X.K)) (kn_terms_are : KnX X "_law_terms_are" 3 (sp_terms_are X.K)) (fa_Deed_name : FldA X.K "Deed" "name") (fa_Deed_terms : FldA X.K "Deed" "terms") (fa_Draw_address : FldA X.K "Draw" "address") (fa_Draw_name : FldA X.K "Draw" "name") (fa_Late_address : FldA X.K "Late" "address") (fa_Late_name : FldA X.K "Late" "name") (fa_Let_name : FldA X.K "Let" "name") (fa_Let_terms : FldA X.K "Let" "terms") (fa_Need_terms : FldA X.K "Need" "terms") (fa_Take_address : FldA X.K "Take" "address") (fa_Take_name : FldA X.K "Take" "name") (fa_Take_word : FldA X.K "Take" "word") (isa_Deed_Deed : IsA X.K X.mg "Deed" "Deed" true) (isa_Deed_Draw : IsA X.K X.mg "Deed" "Draw" false) (isa_Deed_Late : IsA X.K X.mg "Deed" "Late" false) (isa_Deed_Let : IsA X.K X.mg "Deed" "Let" false) (isa_Deed_Need : IsA X.K X.mg "Deed" "Need" false) (isa_Deed_Row : IsA X.K X.mg "Deed" "Row" true) (isa_Deed_Take : IsA X.K X.mg "Deed" "Take" false) (isa_Draw_Deed : IsA X.K X.mg "Draw" "Deed" false) (isa_Draw_Draw : IsA X.K X.mg "Draw" "Draw" true) (isa_Draw_Late : IsA X.K X.mg "Draw" "Late" false) (isa_Draw_Let : IsA X.K X.mg "Draw" "Let" false) (isa_Draw_Need : IsA X.K X.mg "Draw" "Need" false) (isa_Draw_Row : IsA X.K X.mg "Draw" "Row" true) (isa_Draw_Take : IsA X.K X.mg "Draw" "Take" false) (isa_Late_Deed : IsA X.K X.mg "Late" "Deed" false) (isa_Late_Draw : IsA X.K X.mg "Late" "Draw" false) (isa_Late_Late : IsA X.K X.mg "Late" "Late" true) (isa_Late_Let : IsA X.K X.mg "Late" "Let" false) (isa_Late_Need : IsA X.K X.mg "Late" "Need" false) (isa_Late_Row : IsA X.K X.mg "Late" "Row" true) (isa_Late_Take : IsA X.K X.mg "Late" "Take" false) (isa_Let_Deed : IsA X.K X.mg "Let" "Deed" false) (isa_Let_Draw : IsA X.K X.mg "Let" "Draw" false) (isa_Let_Late : IsA X.K X.mg "Let" "Late" false) (isa_Let_Let : IsA X.K X.mg "Let" "Let" true) (isa_Let_Need : IsA X.K X.mg "Let" "Need" false) (isa_Let_Row : IsA X.K X.mg "Let" "Row" true) (isa_Let_Take : IsA X.K X.mg "Let" "Take" false) (isa_Need_Deed : IsA X.K X.mg "Need" "Deed" false) (isa_Need_Draw : IsA X.K X.mg "Need" "Draw" false) (isa_Need_Late : IsA X.K X.mg "Need" "Late" false) (isa_Need_Let : IsA X.K X.mg "Need" "Let" false) (isa_Need_Need : IsA X.K X.mg "Need" "Need" true) (isa_Need_Row : IsA X.K X.mg "Need" "Row" true) (isa_Need_Take : IsA X.K X.mg "Need" "Take" false) (isa_Take_Deed : IsA X.K X.mg "Take" "Deed" false) (isa_Take_Draw : IsA X.K X.mg "Take" "Draw" false) (isa_Take_Late : IsA X.K X.mg "Take" "Late" false) (isa_Take_Let : IsA X.K X.mg "Take" "Let" false) (isa_Take_Need : IsA X.K X.mg "Take" "Need" false) (isa_Take_Row : IsA X.K X.mg "Take" "Row" true) (isa_Take_Take : IsA X.K X.mg "Take" "Take" true) (a0 : RowT) (a1 : ((List Nat) × (List Nat) × (List Nat) × (List Nat) × (List (Int × (List Nat) × Thing)))) : BC X E ([.d (encRow a0), .d (D.tup [(D.str a1.1), (D.str a1.2.1), (D.str a1.2.2.1), (D.str a1.2.2.2.1), (D.lst (List.map (fun z : (Int × (List Nat) × Thing) => (D.tup [(D.int z.1), (D.str z.2.1), (encThing z.2.2)])) a1.2.2.2.2))]), .un, .un, .un, .un, .un, .un, .un, .un] : List B) (defBody s_law_is) (fun s : Unit => List.replicate 10 B.un) (fun s : Empty => nomatch s) (fun z : Bool => Res.v (D.bl z)) (c_is a0 a1) := by
  unfold c_is
  exact (c_setT (g := (gTup X.K 5 (gCons (gName 2) (gCons (gName 3) (gCons (gName 4) (gCons (gName 5) (gCons (gName 6) gNil))))))) (js := [2, 3, 4, 5, 6]) (fun z : ((List Nat) × (List Nat) × (List Nat) × (List Nat) × (List (Int × (List Nat) × Thing))) => (D.tup [(D.str z.1), (D.str z.2.1), (D.str z.2.2.1), (D.str z.2.2.2.1), (D.lst (List.map (fun z : (Int × (List Nat) × Thing) => (D.tup [(D.int z.1), (D.str z.2.1), (encThing z.2.2)])) z.2.2.2.2))])) (fun v1 : ((List Nat) × (List Nat) × (List Nat) × (List Nat) × (List (Int × (List Nat) × Thing))) => ([.d (encRow a0), .d (D.tup [(D.str a1.1), (D.str a1.2.1), (D.str a1.2.2.1), (D.str a1.2.2.2.1), (D.lst (List.map (fun z : (Int × (List Nat) × Thing) => (D.tup [(D.int z.1), (D.str z.2.1), (encThing z.2.2)])) a1.2.2.2.2))]), .d (D.str v1.1), .d (D.str v1.2.1), .d (D.str v1.2.2.1), .d (D.str v1.2.2.2.1), .d (D.lst (List.map (fun z : (Int × (List Nat) × Thing) => (D.tup [(D.int z.1), (D.str z.2.1), (encThing z.2.2)])) v1.2.2.2.2)), .un, .un, .un] : List B)) (pg_tup hM.calm (pgs_cons (pg_name (i := 2) hX.nd (hX.nm rfl) (hX.lc (loc_c lk_law_is_law_sort)) (.inl (hX.fn _))) (pgs_cons (pg_name (i := 3) hX.nd (hX.nm rfl) (hX.lc (loc_l lk_law_is_law_name_here)) (.inl (hX.fn _))) (pgs_cons (pg_name (i := 4) hX.nd (hX.nm rfl) (hX.lc (loc_l lk_law_is_law_address_here)) (.inl (hX.fn _))) (pgs_cons (pg_name (i := 5) hX.nd (hX.nm rfl) (hX.lc (loc_l lk_law_is_law_word_here)) (.inl (hX.fn _))) (pgs_cons (pg_name (i := 6) hX.nd (hX.nm rfl) (hX.lc (loc_l lk_law_is_law_terms_here)) (.inl (hX.fn _))) pgs_nil)))))) (fun v1 => (tg_tup (tgs_cons 2 (tgs_cons 3 (tgs_cons 4 (tgs_cons 5 (tgs_cons 6 tgs_nil))))) rfl)) (ed_var 1 (hX.nm rfl) (hX.vs (vis_l lk_law_is_law_row_here)) rfl) (fun v1 hv1 => (c_setO 7 (fun z : (List Bool) => OO.lst (List.map D.bl z)) hX rfl (loc_l lk_law_is_law_flags) (eo_lst (ea_cons (RowT.isi_Let isa_Let_Let isa_Deed_Let isa_Draw_Let isa_Late_Let isa_Take_Let isa_Need_Let (hX.gl lk_law_is_isinstance) m_isinstance a0 (ed_var 0 (hX.nm rfl) (hX.vs (vis_l lk_law_is_law_found)) rfl) (hX.gl lk_law_is_Let)) (ea_cons (RowT.isi_Deed isa_Let_Deed isa_Deed_Deed isa_Draw_Deed isa_Late_Deed isa_Take_Deed isa_Need_Deed (hX.gl lk_law_is_isinstance) m_isinstance a0 (ed_var 0 (hX.nm rfl) (hX.vs (vis_l lk_law_is_law_found)) rfl) (hX.gl lk_law_is_Deed)) (ea_cons (RowT.isi_Draw isa_Let_Draw isa_Deed_Draw isa_Draw_Draw isa_Late_Draw isa_Take_Draw isa_Need_Draw (hX.gl lk_law_is_isinstance) m_isinstance a0 (ed_var 0 (hX.nm rfl) (hX.vs (vis_l lk_law_is_law_found)) rfl) (hX.gl lk_law_is_Draw)) (ea_cons (RowT.isi_Late isa_Let_Late isa_Deed_Late isa_Draw_Late isa_Late_Late isa_Take_Late isa_Need_Late (hX.gl lk_law_is_isinstance) m_isinstance a0 (ed_var 0 (hX.nm rfl) (hX.vs (vis_l lk_law_is_law_found)) rfl) (hX.gl lk_law_is_Late)) ea_nil)))) (by show 4 ≤ sizeLine; decide)) (fun v2 hv2 => (show BC X E ([.d (encRow a0), .d (D.tup [(D.str a1.1), (D.str a1.2.1), (D.str a1.2.2.1), (D.str a1.2.2.2.1), (D.lst (List.map (fun z : (Int × (List Nat) × Thing) => (D.tup [(D.int z.1), (D.str z.2.1), (encThing z.2.2)])) a1.2.2.2.2))]), .d (D.str v1.1), .d (D.str v1.2.1), .d (D.str v1.2.2.1), .d (D.str v1.2.2.2.1), .d (D.lst (List.map (fun z : (Int × (List Nat) × Thing) => (D.tup [(D.int z.1), (D.str z.2.1), (encThing z.2.2)])) v1.2.2.2.2)), .own (.lst (List.map D.bl v2)), .un, .un] : List B) _ _ _ _ _ from (c_chk (fun h42 => (have c4 := h42; (c_setO 7 (fun z : (List Bool) => OO.lst (List.map D.bl z)) hX rfl (loc_l lk_law_is_law_flags) (eo_catM (el_own 7 (hX.nm rfl) (hX.vs (vis_l lk_law_is_law_flags)) rfl) (EvO.el (eo_lst (ea_cons (RowT.isi_Take isa_Let_Take isa_Deed_Take isa_Draw_Take isa_Late_Take isa_Take_Take isa_Need_Take (hX.gl lk_law_is_isinstance) m_isinstance a0 (ed_var 0 (hX.nm rfl) (hX.vs (vis_l lk_law_is_law_found)) rfl) (hX.gl lk_law_is_Take)) (ea_cons (RowT.isi_Need isa_Let_Need isa_Deed_Need isa_Draw_Need isa_Late_Need isa_Take_Need isa_Need_Need (hX.gl lk_law_is_isinstance) m_isinstance a0 (ed_var 0 (hX.nm rfl) (hX.vs (vis_l lk_law_is_law_found)) rfl) (hX.gl lk_law_is_Need)) ea_nil)) (by show 2 ≤ sizeLine; decide))) c4) (fun v3 hv3 => (show BC X E ([.d (encRow a0), .d (D.tup [(D.str a1.1), (D.str a1.2.1), (D.str a1.2.2.1), (D.str a1.2.2.2.1), (D.lst (List.map (fun z : (Int × (List Nat) × Thing) => (D.tup [(D.int z.1), (D.str z.2.1), (encThing z.2.2)])) a1.2.2.2.2))]), .d (D.str v1.1), .d (D.str v1.2.1), .d (D.str v1.2.2.1), .d (D.str v1.2.2.2.1), .d (D.lst (List.map (fun z : (Int × (List Nat) × Thing) => (D.tup [(D.int z.1), (D.str z.2.1), (encThing z.2.2)])) v1.2.2.2.2)), .own (.lst (List.map D.bl v3)), .un, .un] : List B) _ _ _ _ _ from (c_chk (fun h41 => (have c9 := h41; (c_setLc 8 (fun z : (List Bool) => OO.lst (List.map D.bl z)) hM hX rfl lk_law_is_law_due (sw_yes hX lk_law_is_law_due (by decide +kernel)) (lc_ok0 (Yt := (List Nat)) (τ := Bool) (encY := D.str) (enc := D.bl) (g := (gName 9)) (js := [9]) (own := [("_law_one", 9)]) ([(([108, 101, 116] : List Nat), ([100, 101, 101, 100] : List Nat), ([100, 114, 97, 119] : List Nat), ([108, 97, 116, 101] : List Nat), ([116, 97, 107, 101] : List Nat), ([110, 101, 101, 100] : List Nat)).1, (([108, 101, 116] : List Nat), ([100, 101, 101, 100] : List Nat), ([100, 114, 97, 119] : List Nat), ([108, 97, 116, 101] : List Nat), ([116, 97, 107, 101] : List Nat), ([110, 101, 101, 100] : List Nat)).2.1, (([108, 101, 116] : List Nat), ([100, 101, 101, 100] : List Nat), ([100, 114, 97, 119] : List Nat), ([108, 97, 116, 101] : List Nat), ([116, 97, 107, 101] : List Nat), ([110, 101, 101, 100] : List Nat)).2.2.1, (([108, 101, 116] : List Nat), ([100, 101, 101, 100] : List Nat), ([100, 114, 97, 119] : List Nat), ([108, 97, 116, 101] : List Nat), ([116, 97, 107, 101] : List Nat), ([110, 101, 101, 100] : List Nat)).2.2.2.1, (([108, 101, 116] : List Nat), ([100, 101, 101, 100] : List Nat), ([100, 114, 97, 119] : List Nat), ([108, 97, 116, 101] : List Nat), ([116, 97, 107, 101] : List Nat), ([110, 101, 101, 100] : List Nat)).2.2.2.2.1, (([108, 101, 116] : List Nat), ([100, 101, 101, 100] : List Nat), ([100, 114, 97, 119] : List Nat), ([108, 97, 116, 101] : List Nat), ([116, 97, 107, 101] : List Nat), ([110, 101, 101, 100] : List Nat)).2.2.2.2.2] : List (List Nat)) (fun y6 : (List Nat) => (decide (v1.1 = y6))) (it_tup (ds := List.map D.str ([(([108, 101, 116] : List Nat), ([100, 101, 101, 100] : List Nat), ([100, 114, 97, 119] : List Nat), ([108, 97, 116, 101] : List Nat), ([116, 97, 107, 101] : List Nat), ([110, 101, 101, 100] : List Nat)).1, (([108, 101, 116] : List Nat), ([100, 101, 101, 100] : List Nat), ([100, 114, 97, 119] : List Nat), ([108, 97, 116, 101] : List Nat), ([116, 97, 107, 101] : List Nat), ([110, 101, 101, 100] : List Nat)).2.1, (([108, 101, 116] : List Nat), ([100, 101, 101, 100] : List Nat), ([100, 114, 97, 119] : List Nat), ([108, 97, 116, 101] : List Nat), ([116, 97, 107, 101] : List Nat), ([110, 101, 101, 100] : List Nat)).2.2.1, (([108, 101, 116] : List Nat), ([100, 101, 101, 100] : List Nat), ([100, 114, 97, 119] : List Nat), ([108, 97, 116, 101] : List Nat), ([116, 97, 107, 101] : List Nat), ([110, 101, 101, 100] : List Nat)).2.2.2.1, (([108, 101, 116] : List Nat), ([100, 101, 101, 100] : List Nat), ([100, 114, 97, 119] : List Nat), ([108, 97, 116, 101] : List Nat), ([116, 97, 107, 101] : List Nat), ([110, 101, 101, 100] : List Nat)).2.2.2.2.1, (([108, 101, 116] : List Nat), ([100, 101, 101, 100] : List Nat), ([100, 114, 97, 119] : List Nat), ([108, 97, 116, 101] : List Nat), ([116, 97, 107, 101] : List Nat), ([110, 101, 101, 100] : List Nat)).2.2.2.2.2] : List (List Nat))) (ed_tup (ea_cons (ed_str ([108, 101, 116] : List Nat) (by decide +kernel) (by decide)) (ea_cons (ed_str ([100, 101, 101, 100] : List Nat) (by decide +kernel) (by decide)) (ea_cons (ed_str ([100, 114, 97, 119] : List Nat) (by decide +kernel) (by decide)) (ea_cons (ed_str ([108, 97, 116, 101] : List Nat) (by decide +kernel) (by decide)) (ea_cons (ed_str ([116, 97, 107, 101] : List Nat) (by decide +kernel) (by decide)) (ea_cons (ed_str ([110, 101, 101, 100] : List Nat) (by decide +kernel) (by decide)) ea_nil)))))) (by show 6 ≤ sizeLine; decide))) (blk_ok hX (by decide +kernel)) (fun _ _ _ _ _ => (pg_name (i := 9) hX.nd (hX.nm rfl) (blk_lc hX (loc_l (by decide +kernel))) (.inr (blk_lk hX (by decide +kernel))))) (by decide) c9 (fun y6 : (List Nat) => ([.d (encRow a0), .d (D.tup [(D.str a1.1), (D.str a1.2.1), (D.str a1.2.2.1), (D.str a1.2.2.2.1), (D.lst (List.map (fun z : (Int × (List Nat) × Thing) => (D.tup [(D.int z.1), (D.str z.2.1), (encThing z.2.2)])) a1.2.2.2.2))]), .d (D.str v1.1), .d (D.str v1.2.1), .d (D.str v1.2.2.1), .d (D.str v1.2.2.2.1), .d (D.lst (List.map (fun z : (Int × (List Nat) × Thing) => (D.tup [(D.int z.1), (D.str z.2.1), (encThing z.2.2)])) v1.2.2.2.2)), .own (.lst (List.map D.bl v3)), .un, .d (D.str y6)] : List B)) (fun y6 _ => (show TgD X.K (gName 9) [9] (wipeB ([.d (encRow a0), .d (D.tup [(D.str a1.1), (D.str a1.2.1), (D.str a1.2.2.1), (D.str a1.2.2.2.1), (D.lst (List.map (fun z : (Int × (List Nat) × Thing) => (D.tup [(D.int z.1), (D.str z.2.1), (encThing z.2.2)])) a1.2.2.2.2))]), .d (D.str v1.1), .d (D.str v1.2.1), .d (D.str v1.2.2.1), .d (D.str v1.2.2.2.1), .d (D.lst (List.map (fun z : (Int × (List Nat) × Thing) => (D.tup [(D.int z.1), (D.str z.2.1), (encThing z.2.2)])) v1.2.2.2.2)), .own (.lst (List.map D.bl v3)), .un, .un] : List B) [9]) (D.str y6) ([.d (encRow a0), .d (D.tup [(D.str a1.1), (D.str a1.2.1), (D.str a1.2.2.1), (D.str a1.2.2.2.1), (D.lst (List.map (fun z : (Int × (List Nat) × Thing) => (D.tup [(D.int z.1), (D.str z.2.1), (encThing z.2.2)])) a1.2.2.2.2))]), .d (D.str v1.1), .d (D.str v1.2.1), .d (D.str v1.2.2.1), .d (D.str v1.2.2.2.1), .d (D.lst (List.map (fun z : (Int × (List Nat) × Thing) => (D.tup [(D.int z.1), (D.str z.2.1), (encThing z.2.2)])) v1.2.2.2.2)), .own (.lst (List.map D.bl v3)), .un, .d (D.str y6)] : List B) from (tg_name 9))) (fun y6 hy7 _ _ _ _ _ => (ed_cmp (od_eqS _ _) (ed_var 2 (hX.nm rfl) (blk_vs hX (vis_c (by decide +kernel))) rfl) (ed_var 9 (hX.nm rfl) (blk_vs hX (vis_l (by decide +kernel))) rfl)))) (fun v5 hv5 => (show BC X E ([.d (encRow a0), .d (D.tup [(D.str a1.1), (D.str a1.2.1), (D.str a1.2.2.1), (D.str a1.2.2.2.1), (D.lst (List.map (fun z : (Int × (List Nat) × Thing) => (D.tup [(D.int z.1), (D.str z.2.1), (encThing z.2.2)])) a1.2.2.2.2))]), .d (D.str v1.1), .d (D.str v1.2.1), .d (D.str v1.2.2.1), .d (D.str v1.2.2.2.1), .d (D.lst (List.map (fun z : (Int × (List Nat) × Thing) => (D.tup [(D.int z.1), (D.str z.2.1), (encThing z.2.2)])) v1.2.2.2.2)), .own (.lst (List.map D.bl v3)), .own (.lst (List.map D.bl v5)), .un] : List B) _ _ _ _ _ from (c_chk (fun h40 => (have c14 := h40; (c_ifr (et_lend 7 rfl (show ET X ([.d (encRow a0), .d (D.tup [(D.str a1.1), (D.str a1.2.1), (D.str a1.2.2.1), (D.str a1.2.2.2.1), (D.lst (List.map (fun z : (Int × (List Nat) × Thing) => (D.tup [(D.int z.1), (D.str z.2.1), (encThing z.2.2)])) a1.2.2.2.2))]), .d (D.str v1.1), .d (D.str v1.2.1), .d (D.str v1.2.2.1), .d (D.str v1.2.2.2.1), .d (D.lst (List.map (fun z : (Int × (List Nat) × Thing) => (D.tup [(D.int z.1), (D.str z.2.1), (encThing z.2.2)])) v1.2.2.2.2)), .d (D.lst (List.map D.bl v3)), .own (.lst (List.map D.bl v5)), .un] : List B) _ _ from (et_lend 8 rfl (show ET X ([.d (encRow a0), .d (D.tup [(D.str a1.1), (D.str a1.2.1), (D.str a1.2.2.1), (D.str a1.2.2.2.1), (D.lst (List.map (fun z : (Int × (List Nat) × Thing) => (D.tup [(D.int z.1), (D.str z.2.1), (encThing z.2.2)])) a1.2.2.2.2))]), .d (D.str v1.1), .d (D.str v1.2.1), .d (D.str v1.2.2.1), .d (D.str v1.2.2.2.1), .d (D.lst (List.map (fun z : (Int × (List Nat) × Thing) => (D.tup [(D.int z.1), (D.str z.2.1), (encThing z.2.2)])) v1.2.2.2.2)), .d (D.lst (List.map D.bl v3)), .d (D.lst (List.map D.bl v5)), .un] : List B) _ _ from (et_w (ew_or (et_not (et_val (RowT.isi_Row isa_Let_Row isa_Deed_Row isa_Draw_Row isa_Late_Row isa_Take_Row isa_Need_Row (hX.gl lk_law_is_isinstance) m_isinstance a0 (ed_var 0 (hX.nm rfl) (hX.vs (vis_l lk_law_is_law_found)) rfl) (hX.gl lk_law_is_Row)))) (fun h13 => (have c12 := (c14 h13); (ew_or (et_cmp (od_neT (eqT_lst (eqT_bl 7)) (room64 hX.room) v3 v5) (ed_var 7 (hX.nm rfl) (hX.vs (vis_l lk_law_is_law_flags)) rfl) (ed_var 8 (hX.nm rfl) (hX.vs (vis_l lk_law_is_law_due)) rfl)) (fun h11 => (have c10 := (c12 h11); (ew_or1 (et_not (et_val (ed_okS (z := D.bl) false (fun E tk => (es_call (E := E) ((a0, a1) : RowT × ((List Nat) × (List Nat) × (List Nat) × (List Nat) × (List (Int × (List Nat) × Thing)))) tk kn_says (hM.room hX (by decide)) (hX.gl lk_law_is_law_says) (ea2_d (ed_var 0 (hX.nm rfl) (hX.vs (vis_l lk_law_is_law_found)) rfl) (ea2_d (ed_var 1 (hX.nm rfl) (hX.vs (vis_l lk_law_is_law_row_here)) rfl) ea2_nil)) trivial)) (fun _ => rfl) c10))))))))))))))) (fun h15 => (c_ret ed_bl rfl)) (fun h15 => (c_chk (fun h39 => (have c21 := h39; (c_ifr (et_w (ew_and (et_cmp (od_neS _ _) (ed_var 2 (hX.nm rfl) (hX.vs (vis_c lk_law_is_law_sort)) rfl) (ed_str ([110, 101, 101, 100] : List Nat) (by decide +kernel) (by decide))) (fun h20 => (have ⟨c16, c19⟩ := (c21 h20); (ew_and1 (et_w (ew_or (et_not (et_val (ed_isi (hX.gl lk_law_is_isinstance) m_isinstance (RowT.fld_name fa_Let_name fa_Deed_name fa_Draw_name fa_Late_name fa_Take_name a0 c16 (ed_var 0 (hX.nm rfl) (hX.vs (vis_l lk_law_is_law_found)) rfl)) (ed_ty (n := "str") (hX.gl lk_law_is_str) m_str (by decide +kernel)) rfl (by decide +kernel)))) (fun h18 => (have c17 := (c19 h18); (ew_or1 (et_cmp (od_neS _ _) (RowT.fld_name fa_Let_name fa_Deed_name fa_Draw_name fa_Late_name fa_Take_name a0 c17 (ed_var 0 (hX.nm rfl) (hX.vs (vis_l lk_law_is_law_found)) rfl)) (ed_var 3 (hX.nm rfl) (hX.vs (vis_l lk_law_is_law_name_here)) rfl)))))))))))) (fun h22 => (c_ret ed_bl rfl)) (fun h22 => (c_chk (fun h38 => (have c28 := h38; (c_ifr (et_w (ew_and (et_cmp (od_eqS _ _) (ed_var 2 (hX.nm rfl) (hX.vs (vis_c lk_law_is_law_sort)) rfl) (ed_str ([116, 97, 107, 101] : List Nat) (by decide +kernel) (by decide))) (fun h27 => (have ⟨c23, c26⟩ := (c28 h27); (ew_and1 (et_w (ew_or (et_not (et_val (ed_isi (hX.gl lk_law_is_isinstance) m_isinstance (RowT.fld_word fa_Take_word a0 c23 (ed_var 0 (hX.nm rfl) (hX.vs (vis_l lk_law_is_law_found)) rfl)) (ed_ty (n := "str") (hX.gl lk_law_is_str) m_str (by decide +kernel)) rfl (by decide +kernel)))) (fun h25 => (have c24 := (c26 h25); (ew_or1 (et_cmp (od_neS _ _) (RowT.fld_word fa_Take_word a0 c24 (ed_var 0 (hX.nm rfl) (hX.vs (vis_l lk_law_is_law_found)) rfl)) (ed_var 5 (hX.nm rfl) (hX.vs (vis_l lk_law_is_law_word_here)) rfl)))))))))))) (fun h29 => (c_ret ed_bl rfl)) (fun h29 => (c_ifr (et_cmp (od_inT _ ([(([100, 114, 97, 119] : List Nat), ([108, 97, 116, 101] : List Nat), ([116, 97, 107, 101] : List Nat)).1, (([100, 114, 97, 119] : List Nat), ([108, 97, 116, 101] : List Nat), ([116, 97, 107, 101] : List Nat)).2.1, (([100, 114, 97, 119] : List Nat), ([108, 97, 116, 101] : List Nat), ([116, 97, 107, 101] : List Nat)).2.2] : List (List Nat))) (ed_var 2 (hX.nm rfl) (hX.vs (vis_c lk_law_is_law_sort)) rfl) (ed_tup (ea_cons (ed_str ([100, 114, 97, 119] : List Nat) (by decide +kernel) (by decide)) (ea_cons (ed_str ([108, 97, 116, 101] : List Nat) (by decide +kernel) (by decide)) (ea_cons (ed_str ([116, 97, 107, 101] : List Nat) (by decide +kernel) (by decide)) ea_nil))) (by show 3 ≤ sizeLine; decide))) (fun h30 => (c_chk (fun h35 => (have ⟨c31, c34⟩ := h35; (c_ret (ed_and (ed_isi (hX.gl lk_law_is_isinstance) m_isinstance (RowT.fld_address fa_Draw_address fa_Late_address fa_Take_address a0 c31 (ed_var 0 (hX.nm rfl) (hX.vs (vis_l lk_law_is_law_found)) rfl)) (ed_ty (n := "str") (hX.gl lk_law_is_str) m_str (by decide +kernel)) rfl (by decide +kernel)) (fun h33 => (have c32 := (c34 h33); (ed_one (ed_cmp (od_eqS _ _) (RowT.fld_address fa_Draw_address fa_Late_address fa_Take_address a0 c32 (ed_var 0 (hX.nm rfl) (hX.vs (vis_l lk_law_is_law_found)) rfl)) (ed_var 4 (hX.nm rfl) (hX.vs (vis_l lk_law_is_law_address_here)) rfl)))))) rfl))))) (fun h30 => (c_chk (fun h37 => (have c36 := h37; (c_retR (es_call (E := (fun _ => E)) (((RowT.R_terms a0), v1.2.2.2.2) : (List (Int × (List Nat) × Thing)) × (List (Int × (List Nat) × Thing))) hM.pass kn_terms_are (hM.room hX (by decide)) (hX.gl lk_law_is_law_terms_are) (ea2_d (RowT.fld_terms fa_Let_terms fa_Deed_terms fa_Need_terms a0 c36 (ed_var 0 (hX.nm rfl) (hX.vs (vis_l lk_law_is_law_found)) rfl)) (ea2_d (ed_var 6 (hX.nm rfl) (hX.vs (vis_l lk_law_is_law_terms_here)) rfl) ea2_nil)) trivial)))))))))))))))))))))))))))))))))))))))
abbrev sp_is (K : PySem.W.Frag) : Sp := spG K (A := RowT × ((List Nat) × (List Nat) × (List Nat) × (List Nat) × (List (Int × (List Nat) × Thing)))) (fun a => [.d (encRow a.1), .d (D.tup [(D.str a.2.1), (D.str a.2.2.1), (D.str a.2.2.2.1), (D.str a.2.2.2.2.1), (D.lst (List.map (fun z : (Int × (List Nat) × Thing) => (D.tup [(D.int z.1), (D.str z.2.1), (encThing z.2.2)])) a.2.2.2.2.2))])]) (fun _ => True) (fun a => rsOf (fun z : Bool => Res.v (D.bl z)) (isF a.1 a.2))
theorem ok_is {P : Program} {w : World} {K : PySem.W.Frag} {mg : Str → Option Value} {base : Heap} {f : Addr} {fd : FuncData} (F : Fun K "_law_is" "_law_is" s_law_is f fd) (m_isinstance : mg "isinstance" = none) (m_str : mg "str" = none) (kn_says : Kn P w K mg base "_law_says" 4 (sp_says K)) (kn_terms_are : Kn P w K mg base "_law_terms_are" 3 (sp_terms_are K)) (fa_Deed_name : FldA K "Deed" "name") (fa_Deed_terms : FldA K "Deed" "terms") (fa_Draw_address : FldA K "Draw" "address") (fa_Draw_name : FldA K "Draw" "name") (fa_Late_address : FldA K "Late" "address") (fa_Late_name : FldA K "Late" "name") (fa_Let_name : FldA K "Let" "name") (fa_Let_terms : FldA K "Let" "terms") (fa_Need_terms : FldA K "Need" "terms") (fa_Take_address : FldA K "Take" "address") (fa_Take_name : FldA K "Take" "name") (fa_Take_word : FldA K "Take" "word") (isa_Deed_Deed : IsA K mg "Deed" "Deed" true) (isa_Deed_Draw : IsA K mg "Deed" "Draw" false) (isa_Deed_Late : IsA K mg "Deed" "Late" false) (isa_Deed_Let : IsA K mg "Deed" "Let" false) (isa_Deed_Need : IsA K mg "Deed" "Need" false) (isa_Deed_Row : IsA K mg "Deed" "Row" true) (isa_Deed_Take : IsA K mg "Deed" "Take" false) (isa_Draw_Deed : IsA K mg "Draw" "Deed" false) (isa_Draw_Draw : IsA K mg "Draw" "Draw" true) (isa_Draw_Late : IsA K mg "Draw" "Late" false) (isa_Draw_Let : IsA K mg "Draw" "Let" false) (isa_Draw_Need : IsA K mg "Draw" "Need" false) (isa_Draw_Row : IsA K mg "Draw" "Row" true) (isa_Draw_Take : IsA K mg "Draw" "Take" false) (isa_Late_Deed : IsA K mg "Late" "Deed" false) (isa_Late_Draw : IsA K mg "Late" "Draw" false) (isa_Late_Late : IsA K mg "Late" "Late" true) (isa_Late_Let : IsA K mg "Late" "Let" false) (isa_Late_Need : IsA K mg "Late" "Need" false) (isa_Late_Row : IsA K mg "Late" "Row" true) (isa_Late_Take : IsA K mg "Late" "Take" false) (isa_Let_Deed : IsA K mg "Let" "Deed" false) (isa_Let_Draw : IsA K mg "Let" "Draw" false) (isa_Let_Late : IsA K mg "Let" "Late" false) (isa_Let_Let : IsA K mg "Let" "Let" true) (isa_Let_Need : IsA K mg "Let" "Need" false) (isa_Let_Row : IsA K mg "Let" "Row" true) (isa_Let_Take : IsA K mg "Let" "Take" false) (isa_Need_Deed : IsA K mg "Need" "Deed" false) (isa_Need_Draw : IsA K mg "Need" "Draw" false) (isa_Need_Late : IsA K mg "Need" "Late" false) (isa_Need_Let : IsA K mg "Need" "Let" false) (isa_Need_Need : IsA K mg "Need" "Need" true) (isa_Need_Row : IsA K mg "Need" "Row" true) (isa_Need_Take : IsA K mg "Need" "Take" false) (isa_Take_Deed : IsA K mg "Take" "Deed" false) (isa_Take_Draw : IsA K mg "Take" "Draw" false) (isa_Take_Late : IsA K mg "Take" "Late" false) (isa_Take_Let : IsA K mg "Take" "Let" false) (isa_Take_Need : IsA K mg "Take" "Need" false) (isa_Take_Row : IsA K mg "Take" "Row" true) (isa_Take_Take : IsA K mg "Take" "Take" true) : FnOk P w K mg base (L2.CX P w) 5 f fd ["_law_found", "_law_row_here"] (sp_is K) :=
  def_okC (A := RowT × ((List Nat) × (List Nat) × (List Nat) × (List Nat) × (List (Int × (List Nat) × Thing)))) F sc_law_is .stk (.inl rfl) (fun _ => rfl) (fun a => c_is a.1 a.2) (fun a X E e1 e2 e3 e4 e5 hX hM => by
    subst e1 e2 e3 e4 e5
    exact bd_is X E hX hM m_isinstance m_str kn_says kn_terms_are fa_Deed_name fa_Deed_terms fa_Draw_address fa_Draw_name fa_Late_address fa_Late_name fa_Let_name fa_Let_terms fa_Need_terms fa_Take_address fa_Take_name fa_Take_word isa_Deed_Deed isa_Deed_Draw isa_Deed_Late isa_Deed_Let isa_Deed_Need isa_Deed_Row isa_Deed_Take isa_Draw_Deed isa_Draw_Draw isa_Draw_Late isa_Draw_Let isa_Draw_Need isa_Draw_Row isa_Draw_Take isa_Late_Deed isa_Late_Draw isa_Late_Late isa_Late_Let isa_Late_Need isa_Late_Row isa_Late_Take isa_Let_Deed isa_Let_Draw isa_Let_Late isa_Let_Let isa_Let_Need isa_Let_Row isa_Let_Take isa_Need_Deed isa_Need_Draw isa_Need_Late isa_Need_Let isa_Need_Need isa_Need_Row isa_Need_Take isa_Take_Deed isa_Take_Draw isa_Take_Late isa_Take_Let isa_Take_Need isa_Take_Row isa_Take_Take a.1 a.2)
abbrev s_law : Stmt := top 56
abbrev nm_law : List Str := ["_law_script", "_law_k", "_law_cell_here", "_law_row_here", "_law_text_here", "_law_found"]
theorem sc_law : FnScope nm_law ["_law_script"] (defScope s_law) := ⟨rfl, rfl, rfl, by decide +kernel, rfl, by decide +kernel, by decide +kernel⟩
theorem lk_law_law_cell : (defScope s_law).names.lookup ("_law_cell" : Str) = some .globalImplicit := by decide +kernel
theorem lk_law_law_cell_here : (defScope s_law).names.lookup ("_law_cell_here" : Str) = some .local := by decide +kernel
theorem lk_law_law_found : (defScope s_law).names.lookup ("_law_found" : Str) = some .local := by decide +kernel
theorem lk_law_law_is : (defScope s_law).names.lookup ("_law_is" : Str) = some .globalImplicit := by decide +kernel
theorem lk_law_law_k : (defScope s_law).names.lookup ("_law_k" : Str) = some .local := by decide +kernel
theorem lk_law_law_label : (defScope s_law).names.lookup ("_law_label" : Str) = some .globalImplicit := by decide +kernel
theorem lk_law_law_row : (defScope s_law).names.lookup ("_law_row" : Str) = some .globalImplicit := by decide +kernel
theorem lk_law_law_row_here : (defScope s_law).names.lookup ("_law_row_here" : Str) = some .local := by decide +kernel
theorem lk_law_law_said : (defScope s_law).names.lookup ("_law_said" : Str) = some .globalImplicit := by decide +kernel
theorem lk_law_law_script : (defScope s_law).names.lookup ("_law_script" : Str) = some .local := by decide +kernel
theorem lk_law_law_sub : (defScope s_law).names.lookup ("_law_sub" : Str) = some .globalImplicit := by decide +kernel
theorem lk_law_law_text_here : (defScope s_law).names.lookup ("_law_text_here" : Str) = some .local := by decide +kernel
theorem lk_law_len : (defScope s_law).names.lookup ("len" : Str) = some .globalImplicit := by decide +kernel
theorem lk_law_max : (defScope s_law).names.lookup ("max" : Str) = some .globalImplicit := by decide +kernel
theorem lk_law_min : (defScope s_law).names.lookup ("min" : Str) = some .globalImplicit := by decide +kernel
theorem lk_law_range : (defScope s_law).names.lookup ("range" : Str) = some .globalImplicit := by decide +kernel
theorem lk_law_read_row : (defScope s_law).names.lookup ("read_row" : Str) = some .globalImplicit := by decide +kernel
noncomputable def c_law (a0 : (List Int)) : Co Unit Empty Bool := chk ((-(2 ^ 62) ≤ (if (if (30 : Int) < (a0.length : Int) then (30 : Int) else (a0.length : Int)) > (1 : Int) then (if (30 : Int) < (a0.length : Int) then (30 : Int) else (a0.length : Int)) else (1 : Int)) ∧ (if (if (30 : Int) < (a0.length : Int) then (30 : Int) else (a0.length : Int)) > (1 : Int) then (if (30 : Int) < (a0.length : Int) then (30 : Int) else (a0.length : Int)) else (1 : Int)) < 2 ^ 62)) (Co.bind (S := Unit) (coLoop (Y := Int) (fun (s2 : Unit) (y3 : Int) => (bndO ((cellF a0 y3) : Out Int) fun v4 => chk ((((subF v4 (36 : Int))).IsOk) ∧ (((labelF ((subF v4 (36 : Int)).get (0 : Int)))).IsOk)) (bndO ((rowF v4 ((labelF ((subF v4 (36 : Int)).get (0 : Int))).get [])) : Out ((List Nat) × (List Nat) × (List Nat) × (List Nat) × (List (Int × (List Nat) × Thing)))) fun v5 => bndO ((saidF v5) : Out (List Nat)) fun v8 => bndO ((readRowF v8) : Out RowT) fun v9 => chk ((((isF v9 v5)).IsOk) ∧ ((!((isF v9 v5).get false)) = false → (((readRowF v8)).IsOk) ∧ (((isF ((readRowF v8).get (RowT.Need [])) v5)).IsOk) ∧ ((!((isF ((readRowF v8).get (RowT.Need [])) v5).get false)) = false → (((isF v9 v5)).IsOk)))) (if ((!((isF v9 v5).get false)) || ((!((isF ((readRowF v8).get (RowT.Need [])) v5).get false)) || (!((isF v9 v5).get false)))) = true then Co.up (.ret (.ok false)) else .go ())) : Co (Unit) (Unit) Bool)) () (rints 0 ((if (if (30 : Int) < (a0.length : Int) then (30 : Int) else (a0.length : Int)) > (1 : Int) then (if (30 : Int) < (a0.length : Int) then (30 : Int) else (a0.length : Int)) else (1 : Int))).toNat)) fun s21 => .ret (.ok true))
noncomputable def lawF (a0 : (List Int)) : Out Bool := (c_law a0).out .stk
theorem bd_law (X : Cx) (E : XK) (hX : XOk 7 nm_law (defScope s_law) X) (hM : XCm X E) (m_len : X.mg "len" = none) (m_max : X.mg "max" = none) (m_min : X.mg "min" = none) (m_range : X.mg "range" = none) (kn_cell : KnX X "_law_cell" 1 (sp_cell X.K)) (kn_is : KnX X "_law_is" 5 (sp_is X.K)) (kn_label : KnX X "_law_label" 3 (sp_label X.K)) (kn_lsaid : KnX X "_law_said" 3 (sp_lsaid X.K)) (kn_read_row : KnX X "read_row" 7 (sp_read_row X.K)) (kn_row : KnX X "_law_row" 6 (sp_row X.K)) (kn_sub : KnX X "_law_sub" 1 (sp_sub X.K)) (a0 : (List Int)) : BC X E ([.d (D.scr a0), .un, .un, .un, .un, .un] : List B) (defBody s_law) (fun s : Unit => List.replicate 6 B.un) (fun s : Empty => nomatch s) (fun z : Bool => Res.v (D.bl z)) (c_law a0) := by
  unfold c_law
  exact (c_chk (fun h22 => (have c1 := h22; (c_for (Γl := (fun s2 : Unit => ([.d (D.scr a0), .un, .un, .un, .un, .un] : List B))) (g := (gName 1)) (js := [1]) D.int (fun (s2 : Unit) (y3 : Int) => (bndO ((cellF a0 y3) : Out Int) fun v4 => chk ((((subF v4 (36 : Int))).IsOk) ∧ (((labelF ((subF v4 (36 : Int)).get (0 : Int)))).IsOk)) (bndO ((rowF v4 ((labelF ((subF v4 (36 : Int)).get (0 : Int))).get [])) : Out ((List Nat) × (List Nat) × (List Nat) × (List Nat) × (List (Int × (List Nat) × Thing)))) fun v5 => bndO ((saidF v5) : Out (List Nat)) fun v8 => bndO ((readRowF v8) : Out RowT) fun v9 => chk ((((isF v9 v5)).IsOk) ∧ ((!((isF v9 v5).get false)) = false → (((readRowF v8)).IsOk) ∧ (((isF ((readRowF v8).get (RowT.Need [])) v5)).IsOk) ∧ ((!((isF ((readRowF v8).get (RowT.Need [])) v5).get false)) = false → (((isF v9 v5)).IsOk)))) (if ((!((isF v9 v5).get false)) || ((!((isF ((readRowF v8).get (RowT.Need [])) v5).get false)) || (!((isF v9 v5).get false)))) = true then Co.up (.ret (.ok false)) else .go ())) : Co (Unit) (Unit) Bool)) () (rints 0 ((if (if (30 : Int) < (a0.length : Int) then (30 : Int) else (a0.length : Int)) > (1 : Int) then (if (30 : Int) < (a0.length : Int) then (30 : Int) else (a0.length : Int)) else (1 : Int))).toNat) (fun (s2 : Unit) (y3 : Int) => ([.d (D.scr a0), .d (D.int y3), .un, .un, .un, .un] : List B)) hM hX (.keep (.keep (.keep (.keep (.keep (.keep .nil)))))) (it_range1 (hX.gl lk_law_range) m_range (ed_max2 hM.calm (hX.gl lk_law_max) m_max ed_int (ed_min2 hM.calm (hX.gl lk_law_min) m_min (ed_lenScr (hX.gl lk_law_len) m_len (ed_var 0 (hX.nm rfl) (hX.vs (vis_l lk_law_law_script)) rfl)) ed_int)) c1) (pg_name (i := 1) hX.nd (hX.nm rfl) (hX.lc (loc_l lk_law_law_k)) (.inl (hX.fn _))) (fun s2 y3 => (tg_name 1)) (fun s2 y3 => (c_setR 2 D.int hX rfl (loc_l lk_law_law_cell_here) (es_call (E := (fun _ => E)) ((a0, y3) : (List Int) × Int) hM.pass kn_cell (hM.room hX (by decide)) (hX.gl lk_law_law_cell) (ea2_d (ed_var 0 (hX.nm rfl) (hX.vs (vis_l lk_law_law_script)) rfl) (ea2_d (ed_var 1 (hX.nm rfl) (hX.vs (vis_l lk_law_law_k)) rfl) ea2_nil)) trivial) (fun v4 => (show BC X E ([.d (D.scr a0), .d (D.int y3), .d (D.int v4), .un, .un, .un] : List B) _ _ _ _ _ from (c_chk (fun h20 => (have ⟨c6, c7⟩ := h20; (c_setR 3 (fun z : ((List Nat) × (List Nat) × (List Nat) × (List Nat) × (List (Int × (List Nat) × Thing))) => (D.tup [(D.str z.1), (D.str z.2.1), (D.str z.2.2.1), (D.str z.2.2.2.1), (D.lst (List.map (fun z : (Int × (List Nat) × Thing) => (D.tup [(D.int z.1), (D.str z.2.1), (encThing z.2.2)])) z.2.2.2.2))])) hX rfl (loc_l lk_law_law_row_here) (es_call (E := (fun _ => E)) ((v4, ((labelF ((subF v4 (36 : Int)).get (0 : Int))).get [])) : Int × (List Nat)) hM.pass kn_row (hM.room hX (by decide)) (hX.gl lk_law_law_row) (ea2_d (ed_var 2 (hX.nm rfl) (hX.vs (vis_l lk_law_law_cell_here)) rfl) (ea2_d (ed_okS (z := D.str) [] (fun E tk => (es_call (E := E) ((subF v4 (36 : Int)).get (0 : Int)) tk kn_label (hM.room hX (by decide)) (hX.gl lk_law_law_label) (ea2_d (ed_okS (z := D.int) (0 : Int) (fun E tk => (es_call (E := E) ((v4, (36 : Int)) : Int × Int) tk kn_sub (hM.room hX (by decide)) (hX.gl lk_law_law_sub) (ea2_d (ed_var 2 (hX.nm rfl) (hX.vs (vis_l lk_law_law_cell_here)) rfl) (ea2_d ed_int ea2_nil)) trivial)) (fun _ => rfl) c6) ea2_nil) trivial)) (fun _ => rfl) c7) ea2_nil)) trivial) (fun v5 => (show BC X E ([.d (D.scr a0), .d (D.int y3), .d (D.int v4), .d (D.tup [(D.str v5.1), (D.str v5.2.1), (D.str v5.2.2.1), (D.str v5.2.2.2.1), (D.lst (List.map (fun z : (Int × (List Nat) × Thing) => (D.tup [(D.int z.1), (D.str z.2.1), (encThing z.2.2)])) v5.2.2.2.2))]), .un, .un] : List B) _ _ _ _ _ from (c_setR 4 D.str hX rfl (loc_l lk_law_law_text_here) (es_call (E := (fun _ => E)) v5 hM.pass kn_lsaid (hM.room hX (by decide)) (hX.gl lk_law_law_said) (ea2_d (ed_var 3 (hX.nm rfl) (hX.vs (vis_l lk_law_law_row_here)) rfl) ea2_nil) trivial) (fun v8 => (show BC X E ([.d (D.scr a0), .d (D.int y3), .d (D.int v4), .d (D.tup [(D.str v5.1), (D.str v5.2.1), (D.str v5.2.2.1), (D.str v5.2.2.2.1), (D.lst (List.map (fun z : (Int × (List Nat) × Thing) => (D.tup [(D.int z.1), (D.str z.2.1), (encThing z.2.2)])) v5.2.2.2.2))]), .d (D.str v8), .un] : List B) _ _ _ _ _ from (c_setR 5 encRow hX rfl (loc_l lk_law_law_found) (es_call (E := (fun _ => E)) v8 hM.pass kn_read_row (hM.room hX (by decide)) (hX.gl lk_law_read_row) (ea2_d (ed_var 4 (hX.nm rfl) (hX.vs (vis_l lk_law_law_text_here)) rfl) ea2_nil) trivial) (fun v9 => (show BC X E ([.d (D.scr a0), .d (D.int y3), .d (D.int v4), .d (D.tup [(D.str v5.1), (D.str v5.2.1), (D.str v5.2.2.1), (D.str v5.2.2.2.1), (D.lst (List.map (fun z : (Int × (List Nat) × Thing) => (D.tup [(D.int z.1), (D.str z.2.1), (encThing z.2.2)])) v5.2.2.2.2))]), .d (D.str v8), .d (encRow v9)] : List B) _ _ _ _ _ from (c_chk (fun h19 => (have ⟨c10, c17⟩ := h19; (c_ifr (et_w (ew_or (et_not (et_val (ed_okS (z := D.bl) false (fun E tk => (es_call (E := E) ((v9, v5) : RowT × ((List Nat) × (List Nat) × (List Nat) × (List Nat) × (List (Int × (List Nat) × Thing)))) tk kn_is (hM.room hX (by decide)) (hX.gl lk_law_law_is) (ea2_d (ed_var 5 (hX.nm rfl) (hX.vs (vis_l lk_law_law_found)) rfl) (ea2_d (ed_var 3 (hX.nm rfl) (hX.vs (vis_l lk_law_law_row_here)) rfl) ea2_nil)) trivial)) (fun _ => rfl) c10))) (fun h16 => (have ⟨c11, c12, c15⟩ := (c17 h16); (ew_or (et_not (et_val (ed_okS (z := D.bl) false (fun E tk => (es_call (E := E) ((((readRowF v8).get (RowT.Need [])), v5) : RowT × ((List Nat) × (List Nat) × (List Nat) × (List Nat) × (List (Int × (List Nat) × Thing)))) tk kn_is (hM.room hX (by decide)) (hX.gl lk_law_law_is) (ea2_d (ed_okS (z := encRow) (RowT.Need []) (fun E tk => (es_call (E := E) v8 tk kn_read_row (hM.room hX (by decide)) (hX.gl lk_law_read_row) (ea2_d (ed_var 4 (hX.nm rfl) (hX.vs (vis_l lk_law_law_text_here)) rfl) ea2_nil) trivial)) (fun _ => rfl) c11) (ea2_d (ed_var 3 (hX.nm rfl) (hX.vs (vis_l lk_law_law_row_here)) rfl) ea2_nil)) trivial)) (fun _ => rfl) c12))) (fun h14 => (have c13 := (c15 h14); (ew_or1 (et_not (et_val (ed_okS (z := D.bl) false (fun E tk => (es_call (E := E) ((v9, v5) : RowT × ((List Nat) × (List Nat) × (List Nat) × (List Nat) × (List (Int × (List Nat) × Thing)))) tk kn_is (hM.room hX (by decide)) (hX.gl lk_law_law_is) (ea2_d (ed_var 5 (hX.nm rfl) (hX.vs (vis_l lk_law_law_found)) rfl) (ea2_d (ed_var 3 (hX.nm rfl) (hX.vs (vis_l lk_law_law_row_here)) rfl) ea2_nil)) trivial)) (fun _ => rfl) c13))))))))))) (fun h18 => (c_ret ed_bl rfl)) (fun h18 => (c_nil (.keep (.drop (.drop (.drop (.drop (.drop .nil)))))))))))))))))))))))))))) (fun s21 => (show BC X E ([.d (D.scr a0), .un, .un, .un, .un, .un] : List B) _ _ _ _ _ from (c_ret ed_bl rfl)))))))
abbrev sp_law (K : PySem.W.Frag) : Sp := spG K (A := (List Int)) (fun a => [.d (D.scr a)]) (fun _ => True) (fun a => rsOf (fun z : Bool => Res.v (D.bl z)) (lawF a))
theorem ok_law {P : Program} {w : World} {K : PySem.W.Frag} {mg : Str → Option Value} {base : Heap} {f : Addr} {fd : FuncData} (F : Fun K "law" "law" s_law f fd) (m_len : mg "len" = none) (m_max : mg "max" = none) (m_min : mg "min" = none) (m_range : mg "range" = none) (kn_cell : Kn P w K mg base "_law_cell" 1 (sp_cell K)) (kn_is : Kn P w K mg base "_law_is" 5 (sp_is K)) (kn_label : Kn P w K mg base "_law_label" 3 (sp_label K)) (kn_lsaid : Kn P w K mg base "_law_said" 3 (sp_lsaid K)) (kn_read_row : Kn P w K mg base "read_row" 7 (sp_read_row K)) (kn_row : Kn P w K mg base "_law_row" 6 (sp_row K)) (kn_sub : Kn P w K mg base "_law_sub" 1 (sp_sub K)) : FnOk P w K mg base (L2.CX P w) 8 f fd ["_law_script"] (sp_law K) :=
  def_okC (A := (List Int)) F sc_law .stk (.inl rfl) (fun _ => rfl) (fun a => c_law a) (fun a X E e1 e2 e3 e4 e5 hX hM => by
    subst e1 e2 e3 e4 e5
    exact bd_law X E hX hM m_len m_max m_min m_range kn_cell kn_is kn_label kn_lsaid kn_read_row kn_row kn_sub a)
/-! names and addresses -/
def nameOk (s : List Nat) : Bool := decide ((1 : Int) ≤ (s.length : Int)) && decide ((s.length : Int) ≤ (8 : Int)) && s.all fun c => decide (c ∈ LETTERS)
theorem isNameF_eq (s : List Nat) : isNameF s = .ok (nameOk s) := by
  unfold isNameF c_is_name nameOk
  rw [loop_allC (q := fun c => decide (c ∈ LETTERS)) (o := .ok false) (fun c _ => by cases decide (c ∈ LETTERS) <;> rfl)]
  cases decide ((1 : Int) ≤ (s.length : Int)) <;> cases decide ((s.length : Int) ≤ (8 : Int)) <;> cases s.all (fun c => decide (c ∈ LETTERS)) <;> rfl
def allOk (ls : List (List Nat)) (m : Int) : Bool := decide ((1 : Int) ≤ (ls.length : Int)) && decide ((ls.length : Int) ≤ m) && ls.all nameOk
theorem areNamesF_eq (ls : List (List Nat)) (m : Int) : areNamesF ls m = .ok (allOk ls m) := by
  unfold areNamesF c_are_names allOk
  rw [loop_allC (q := nameOk) (o := .ok false) (fun y _ => by
    simp only [isNameF_eq, chk_true, isOk_ok, isOk_err, get_okE, bnd_eq, bndO_okE, bndO_errE, bind_goE, bind_retE, up_retE, out_retE, out_goE, bind_iteE, up_iteE, out_iteE, try_okE, true_and, and_true, and_self, forall_const, implies_true]
    cases nameOk y <;> rfl)]
  cases decide ((1 : Int) ≤ (ls.length : Int)) <;> cases decide ((ls.length : Int) ≤ m) <;> cases ls.all nameOk <;> rfl
structure Word1 (l : List Nat) : Prop where
  pos : 0 < l.length
  few : l.length ≤ 8
  ltr : ∀ x ∈ l, x ∈ LETTERS
theorem ltr_lt {c : Nat} (h : c ∈ LETTERS) : 97 ≤ c ∧ c ≤ 122 := by
  unfold LETTERS at h
  simp only [List.mem_cons, List.not_mem_nil, or_false] at h
  omega
theorem Word1.ok {l : List Nat} (h : Word1 l) : nameOk l = true := by
  have h1 := h.pos
  have h2 := h.few
  unfold nameOk
  rw [decide_eq_true (show (1 : Int) ≤ (l.length : Int) by omega), decide_eq_true (show (l.length : Int) ≤ 8 by omega)]
  show (true && true && _) = true
  rw [Bool.true_and, Bool.true_and, List.all_eq_true]
  exact fun c hc => decide_eq_true (h.ltr c hc)
theorem Word1.of {l : List Nat} (h : nameOk l = true) : Word1 l := by
  unfold nameOk at h
  rw [Bool.and_eq_true, Bool.and_eq_true, List.all_eq_true] at h
  have h1 := of_decide_eq_true h.1.1
  have h2 := of_decide_eq_true h.1.2
  exact ⟨by omega, by omega, fun c hc => of_decide_eq_true (h.2 c hc)⟩
theorem Word1.no {l : List Nat} (h : Word1 l) {c : Nat} (hc : c < 97) : c ∉ l := fun m => by
  have := ltr_lt (h.ltr c m)
  omega
/-- names with points between -/
structure Path (n : Nat) (ns : List (List Nat)) : Prop where
  pos : 0 < ns.length
  few : ns.length ≤ n
  all : ∀ x ∈ ns, Word1 x
theorem Path.ok {n : Nat} {ns : List (List Nat)} (h : Path n ns) : allOk ns (n : Int) = true := by
  have h1 := h.pos
  have h2 := h.few
  unfold allOk
  rw [decide_eq_true (show (1 : Int) ≤ (ns.length : Int) by omega), decide_eq_true (show (ns.length : Int) ≤ (n : Int) by omega)]
  show (true && true && ns.all nameOk) = true
  rw [Bool.true_and, Bool.true_and, List.all_eq_true]
  exact fun x hx => (h.all x hx).ok
theorem Path.of {n : Nat} {ns : List (List Nat)} (h : allOk ns (n : Int) = true) : Path n ns := by
  unfold allOk at h
  rw [Bool.and_eq_true, Bool.and_eq_true, List.all_eq_true] at h
  have h1 := of_decide_eq_true h.1.1
  have h2 := of_decide_eq_true h.1.2
  exact ⟨by omega, by omega, fun x hx => .of (h.2 x hx)⟩
theorem Path.split {n : Nat} {ns : List (List Nat)} (h : Path n ns) : splitS (joinS [46] ns) [46] = ns := split_join (by decide) (List.length_pos_iff.mp h.pos) fun p hp => (h.all p hp).no (by decide)
theorem mem_joinL {c s : Nat} : ∀ {ls : List (List Nat)}, c ∈ TL.joinL [s] ls → c = s ∨ ∃ x ∈ ls, c ∈ x
  | [], h => by cases h
  | [p], h => .inr ⟨p, by simp, h⟩
  | p :: q :: r, h => by
    have h' : c ∈ p ++ ([s] ++ TL.joinL [s] (q :: r)) := h
    rw [List.mem_append, List.mem_append, List.mem_singleton] at h'
    rcases h' with h' | h' | h'
    · exact .inr ⟨p, by simp, h'⟩
    · exact .inl h'
    · rcases mem_joinL h' with e | ⟨x, hx, hc⟩
      · exact .inl e
      · exact .inr ⟨x, List.mem_cons_of_mem _ hx, hc⟩
theorem Path.chr {n : Nat} {ns : List (List Nat)} (h : Path n ns) {c : Nat} (hc : c ∈ joinS [46] ns) : c = 46 ∨ (97 ≤ c ∧ c ≤ 122) := by
  rw [joinS_eq] at hc
  rcases mem_joinL hc with e | ⟨x, hx, hc⟩
  · exact .inl e
  · exact .inr (ltr_lt ((h.all x hx).ltr c hc))
theorem Path.no {n : Nat} {ns : List (List Nat)} (h : Path n ns) : 32 ∉ joinS [46] ns := fun m => by
  rcases h.chr m with e | e <;> omega
theorem Path.jok {n : Nat} {ns : List (List Nat)} (h : Path n ns) (hn : n ≤ 4) : (ns.map (·.length)).sum + ns.length * ([46] : List Nat).length ≤ LMax := join_okL (n := 8) (m := 4) (k := 1) (fun x hx => (h.all x hx).few) (Nat.le_trans h.few hn) (Nat.le_refl 1) (by decide)
theorem Path.len {n : Nat} {ns : List (List Nat)} (h : Path n ns) (hn : n ≤ 4) : (joinS [46] ns).length ≤ 36 := joinS_len (n := 8) (m := 4) (k := 1) (fun x hx => (h.all x hx).few) (Nat.le_trans h.few hn) (Nat.le_refl 1)
theorem joinL_pos {s p : List Nat} {r : List (List Nat)} (h : 0 < p.length) : 0 < (TL.joinL s (p :: r)).length := by
  cases r with
  | nil => exact h
  | cons q r =>
    show 0 < (p ++ (s ++ TL.joinL s (q :: r))).length
    rw [List.length_append]
    omega
theorem Path.ne {n : Nat} {ns : List (List Nat)} (h : Path n ns) : 0 < (joinS [46] ns).length := by
  cases ns with
  | nil => exact absurd h.pos (by decide)
  | cons p r =>
    rw [joinS_eq]
    exact joinL_pos (h.all p (by simp)).pos

def addrOk (s : List Nat) : Bool := allOk (splitS s [46]) 3
theorem isAddressF_eq (s : List Nat) : isAddressF s = .ok (addrOk s) := by
  unfold isAddressF c_is_address addrOk
  simp only [areNamesF_eq, chk_true, isOk_ok, isOk_err, get_okE, bnd_eq, bndO_okE, bndO_errE, bind_goE, bind_retE, up_retE, out_retE, out_goE, bind_iteE, up_iteE, out_iteE, try_okE, true_and, and_true, and_self, forall_const, implies_true, Bool.true_and, forall_const]
theorem Path.addr {ns : List (List Nat)} (h : Path 3 ns) : addrOk (joinS [46] ns) = true := by
  unfold addrOk
  rw [h.split]
  exact h.ok

/-! what a cell gives -/
theorem pick_ex (c k : Int) {m : Int} (h0 : 0 ≤ k) (h1 : k < 40) (hm : 0 < m) : ∃ v, pickF c k m = .ok v ∧ 0 ≤ v ∧ v < m := by
  have fin : ∀ x : Int, ∃ v, (Out.ok (x % m) : Out Int) = .ok v ∧ 0 ≤ v ∧ v < m := fun x => ⟨_, rfl, Int.emod_nonneg _ (by omega), Int.emod_lt_of_pos _ hm⟩
  unfold pickF c_pick
  cases decide (c % (2 : Int) = (1 : Int)) && decide ((0 : Int) < c / 2 ^ ((400 : Int)).toNat) with
  | true =>
    rw [if_pos rfl, chk_pos ⟨by omega, hm⟩]
    exact fin _
  | false =>
    simp only [chk_true, isOk_ok, isOk_err, get_okE, bnd_eq, bndO_okE, bndO_errE, bind_goE, bind_retE, up_retE, out_retE, out_goE, bind_iteE, up_iteE, out_iteE, try_okE, true_and, and_true, and_self, forall_const, implies_true, Bool.false_eq_true, if_false]
    have q7 := ix_all (P := fun x : Int => 0 < x ∧ x < 2 ^ 32) (xs := [48271, 1000003, 15485863, 32452843, 49979687, 67867967, 86028121, 104395301]) (i := k % 8) (d := 0) (by decide) (by show -(8 : Int) ≤ _ ∧ _ < (8 : Int); omega)
    have i8 : -(([48271, 1000003, 15485863, 32452843, 49979687, 67867967, 86028121, 104395301] : List Int).length : Int) ≤ k % 8 ∧ k % 8 < (([48271, 1000003, 15485863, 32452843, 49979687, 67867967, 86028121, 104395301] : List Int).length : Int) := by
      show -(8 : Int) ≤ _ ∧ _ < (8 : Int)
      omega
    have i5 : -(([179424673, 373587883, 573259391, 776531401, 982451653] : List Int).length : Int) ≤ k / 8 ∧ k / 8 < (([179424673, 373587883, 573259391, 776531401, 982451653] : List Int).length : Int) := by
      show -(5 : Int) ≤ _ ∧ _ < (5 : Int)
      omega
    have e0 : (-(2 ^ 64) : Int) < 0 := by decide
    have e1 : (2305843009213693951 : Int) < 2 ^ 64 := by decide
    have e2 : (2 : Int) ^ 32 < 2 ^ 64 := by decide
    have e3 : (1000000000039 : Int) + 41 < 2 ^ 64 := by decide
    rw [chk_pos i8, chk_pos ⟨i5, .inl ⟨by omega, by omega⟩⟩]
    rw [chk_pos ⟨by decide, .inl ⟨by omega, by omega⟩, by decide⟩]
    rw [chk_pos (.inl ⟨by omega, by omega⟩)]
    rw [chk_pos ⟨.inl ⟨by omega, by omega⟩, hm⟩]
    exact fin _
noncomputable def pickL (c k m : Int) : Int := (pickF c k m).get 0
theorem pickF_eq (c k : Int) {m : Int} (h0 : 0 ≤ k) (h1 : k < 40) (hm : 0 < m) : pickF c k m = .ok (pickL c k m) := by
  obtain ⟨v, e, _⟩ := pick_ex c k h0 h1 hm
  unfold pickL
  rw [e]
  rfl
theorem pickL_lt (c k : Int) {m : Int} (h0 : 0 ≤ k) (h1 : k < 40) (hm : 0 < m) : 0 ≤ pickL c k m ∧ pickL c k m < m := by
  obtain ⟨v, e, h⟩ := pick_ex c k h0 h1 hm
  unfold pickL
  rw [e]
  exact h
noncomputable def subL (c k : Int) : Int := (subF c k).get 0
theorem subF_eq (c : Int) {k : Int} (h0 : 0 ≤ k) (h1 : k < 1000) : subF c k = .ok (subL c k) := by
  unfold subL subF c_sub
  rw [chk_pos fun _ => by omega]
  cases decide (c % (2 : Int) = (1 : Int)) && decide ((0 : Int) < c / 2 ^ (((480 : Int) * k) + (400 : Int)).toNat) with
  | true =>
    rw [if_pos rfl, chk_pos (by omega)]
    rfl
  | false =>
    rw [if_neg Bool.false_ne_true, chk_pos ⟨by omega, by omega⟩]
    rfl
noncomputable def cellL (ns : List Int) (k : Int) : Int := (cellF ns k).get 0
theorem cellF_eq (ns : List Int) {k : Int} (h0 : 0 ≤ k) : cellF ns k = .ok (cellL ns k) := by
  unfold cellL cellF c_cell
  by_cases h : k < (ns.length : Int)
  · rw [decide_eq_true h, if_pos rfl, chk_pos ⟨by omega, h⟩]
    rfl
  · rw [decide_eq_false h]
    rfl

noncomputable def numberL (c m : Int) : Int := (numberF c m).get 0
theorem number_ex (c : Int) {m : Int} (hm : 0 < m) : ∃ v, numberF c m = .ok v ∧ 0 ≤ v ∧ v < m := by
  have fin : ∀ x : Int, ∃ v, (Out.ok (x % m) : Out Int) = .ok v ∧ 0 ≤ v ∧ v < m := fun x => ⟨_, rfl, Int.emod_nonneg _ (by omega), Int.emod_lt_of_pos _ hm⟩
  unfold numberF c_number
  cases decide (c % (2 : Int) = (1 : Int)) && decide ((0 : Int) < c / 2 ^ ((400 : Int)).toNat) with
  | true =>
    rw [if_pos rfl, chk_pos hm]
    exact fin _
  | false =>
    rw [if_neg Bool.false_ne_true, chk_pos hm]
    exact fin _
theorem numberF_eq (c : Int) {m : Int} (hm : 0 < m) : numberF c m = .ok (numberL c m) := by
  obtain ⟨v, e, _⟩ := number_ex c hm
  unfold numberL
  rw [e]
  rfl
theorem numberL_lt (c : Int) {m : Int} (hm : 0 < m) : 0 ≤ numberL c m ∧ numberL c m < m := by
  obtain ⟨v, e, h⟩ := number_ex c hm
  unfold numberL
  rw [e]
  exact h

noncomputable def nameL (c : Int) : List Nat := (nameF c).get []
theorem nameF_ok (c : Int) : nameF c = .ok (nameL c) ∧ Word1 (nameL c) := by
  have q := pickL_lt c 30 (m := 8) (by decide) (by decide) (by decide)
  have q2 : ∀ y ∈ rints 0 (1 + pickL c 30 8).toNat, 0 ≤ y ∧ y < 8 := fun y hy => by
    have := rints_mem hy
    omega
  have e2 : ∀ y ∈ rints 0 (1 + pickL c 30 8).toNat, pickF c (31 + y) 26 = .ok (pickL c (31 + y) 26) ∧ 0 ≤ pickL c (31 + y) 26 ∧ pickL c (31 + y) 26 < 26 := fun y hy => by
    have := q2 y hy
    exact ⟨pickF_eq _ _ (by omega) (by omega) (by decide), pickL_lt _ _ (by omega) (by omega) (by decide)⟩
  have k : ∃ s, nameF c = .ok s ∧ Word1 s := by
    unfold nameF c_name
    simp only [chk_true, isOk_ok, isOk_err, get_okE, bnd_eq, bndO_okE, bndO_errE, bind_goE, bind_retE, up_retE, out_retE, out_goE, bind_iteE, up_iteE, out_iteE, try_okE, true_and, and_true, and_self, forall_const, implies_true, pickF_eq c 30 (m := 8) (by decide) (by decide) (by decide)]
    have jk : ∀ f : Int → Nat, (List.map (·.length) (List.map (fun y : Int => [f y]) (rints 0 (1 + pickL c 30 8).toNat))).sum + (List.map (fun y : Int => [f y]) (rints 0 (1 + pickL c 30 8).toNat)).length * ([] : List Nat).length ≤ LMax := fun f => join_okL (n := 1) (m := 8) (k := 0) (fun x hx => by
        obtain ⟨y, _, rfl⟩ := List.mem_map.mp hx
        exact Nat.le_refl _) (by rw [List.length_map, rints_len]; omega) (Nat.le_refl 0) (by decide)
    rw [chk_pos ⟨by omega, fun y hy => ⟨by rw [(e2 y hy).1]; trivial, by rw [(e2 y hy).1, get_okE]; show -(26 : Int) ≤ _ ∧ _ < (26 : Int); have := (e2 y hy).2; omega⟩, by rw [rints_len, sizeLine_eq]; omega, jk _⟩]
    · refine ⟨_, rfl, ?_⟩
      have hl : ∀ xs : List Int, (List.map (fun y : Int => [(ix ([97, 98, 99, 100, 101, 102, 103, 104, 105, 106, 107, 108, 109, 110, 111, 112, 113, 114, 115, 116, 117, 118, 119, 120, 121, 122] : List Nat) ((pickF c (31 + y) 26).get 0) 0)]) xs).flatten.length = xs.length := fun xs => by
        induction xs with
        | nil => rfl
        | cons x xs ih =>
          rw [List.map_cons, List.flatten_cons, List.length_append, ih]
          show 1 + xs.length = xs.length + 1
          omega
      rw [joinS_nil]
      refine ⟨by rw [hl, rints_len]; omega, by rw [hl, rints_len]; omega, fun x hx => ?_⟩
      obtain ⟨l, h1, h2⟩ := List.mem_flatten.mp hx
      obtain ⟨y, hy, rfl⟩ := List.mem_map.mp h1
      rw [List.mem_singleton] at h2
      subst h2
      rw [(e2 y hy).1, get_okE]
      exact ix_mem (xs := LETTERS) 0 (by show -(26 : Int) ≤ _ ∧ _ < (26 : Int); have := (e2 y hy).2; omega)
  obtain ⟨s, e, h⟩ := k
  unfold nameL
  rw [e]
  exact ⟨rfl, h⟩

noncomputable def labelL (c : Int) : List Nat := (labelF c).get []
theorem labelF_ok (c : Int) : labelF c = .ok (labelL c) ∧ Word1 (labelL c) := by
  have k : ∃ s, labelF c = .ok s ∧ Word1 s := by
    unfold labelF c_label
    simp only [chk_true, isOk_ok, isOk_err, get_okE, bnd_eq, bndO_okE, bndO_errE, bind_goE, bind_retE, up_retE, out_retE, out_goE, bind_iteE, up_iteE, out_iteE, try_okE, true_and, and_true, and_self, forall_const, implies_true, pickF_eq c 28 (m := 5) (by decide) (by decide) (by decide), pickF_eq c 29 (m := 10) (by decide) (by decide) (by decide)]
    have q := pickL_lt c 29 (m := 10) (by decide) (by decide) (by decide)
    have hi : -(([[108, 101, 116], [100, 101, 101, 100], [98, 101], [100, 114, 97, 119], [108, 97, 116, 101], [97, 115], [116, 97, 107, 101], [102, 114, 111, 109], [110, 101, 101, 100], [112, 97, 114, 116]] : List (List Nat)).length : Int) ≤ pickL c 29 10 ∧ pickL c 29 10 < (([[108, 101, 116], [100, 101, 101, 100], [98, 101], [100, 114, 97, 119], [108, 97, 116, 101], [97, 115], [116, 97, 107, 101], [102, 114, 111, 109], [110, 101, 101, 100], [112, 97, 114, 116]] : List (List Nat)).length : Int) := by
      show -(10 : Int) ≤ _ ∧ _ < (10 : Int)
      omega
    cases decide (pickL c 28 5 = 0) with
    | true =>
      rw [if_pos rfl, chk_pos hi]
      exact ⟨_, rfl, .of (ix_all (P := fun s => nameOk s = true) (by decide) hi)⟩
    | false =>
      rw [if_neg Bool.false_ne_true]
      exact ⟨_, (nameF_ok c).1, (nameF_ok c).2⟩
  obtain ⟨s, e, h⟩ := k
  unfold labelL
  rw [e]
  exact ⟨rfl, h⟩

/-! terms and their words -/
abbrev Tm := Int × List Nat × Thing
abbrev NUM : List Nat := [110, 117, 109, 98, 101, 114]
abbrev PATH : List Nat := [112, 97, 116, 104]
abbrev CALL : List Nat := [99, 97, 108, 108]
structure TermOk (t : Tm) : Prop where
  sg : t.1 = 1 ∨ t.1 = -1
  th : (t.2.1 = NUM ∧ ∃ n : Nat, t.2.2 = .num n ∧ n < 10 ^ 20) ∨ ((t.2.1 = PATH ∨ t.2.1 = CALL) ∧ ∃ ns, t.2.2 = .path ns ∧ Path 4 ns)
structure TermsOk (ts : List Tm) : Prop where
  pos : 0 < ts.length
  few : ts.length ≤ 6
  all : ∀ t ∈ ts, TermOk t
  first : ∀ t, ts[0]? = some t → t.1 = 1
theorem log_lt {n : Nat} (h : n < 10 ^ 20) : (n : Int).natAbs.log2 < 1920 := by
  rw [Int.natAbs_natCast]
  by_cases h0 : n = 0
  · subst h0
    decide
  · exact (Nat.log2_lt h0).mpr (Nat.lt_of_lt_of_le h (by decide +kernel))
def wordL (t : Tm) : List Nat := if decide (t.2.1 = NUM) = true then strI t.2.2.as_num else if decide (t.2.1 = CALL) = true then joinS [46] t.2.2.as_path ++ [40, 41] else joinS [46] t.2.2.as_path
theorem wordL_num {t : Tm} {n : Nat} (h1 : t.2.1 = NUM) (h2 : t.2.2 = .num n) : wordL t = TL.numL n := by
  unfold wordL
  rw [h1, h2]
  exact strI_nat n
theorem wordL_path {t : Tm} {ns : List (List Nat)} (h1 : t.2.1 = PATH) (h2 : t.2.2 = .path ns) : wordL t = joinS [46] ns := by
  unfold wordL
  rw [h1, h2]
  rfl
theorem wordL_call {t : Tm} {ns : List (List Nat)} (h1 : t.2.1 = CALL) (h2 : t.2.2 = .path ns) : wordL t = joinS [46] ns ++ [40, 41] := by
  unfold wordL
  rw [h1, h2]
  rfl
theorem wordL_len {t : Tm} (h : TermOk t) : (wordL t).length ≤ 40 := by
  rcases h.th with ⟨h1, n, h2, h3⟩ | ⟨h1 | h1, ns, h2, h3⟩
  · rw [wordL_num h1 h2]
    exact Nat.le_trans (TL.numL_len (by decide) h3) (by decide)
  · rw [wordL_path h1 h2]
    have := h3.len (Nat.le_refl 4)
    omega
  · rw [wordL_call h1 h2, List.length_append]
    have := h3.len (Nat.le_refl 4)
    show _ + 2 ≤ 40
    omega
theorem wordL_chr {t : Tm} (h : TermOk t) {c : Nat} (hc : c ∈ wordL t) : 40 ≤ c := by
  rcases h.th with ⟨h1, n, h2, _⟩ | ⟨h1 | h1, ns, h2, h3⟩
  · rw [wordL_num h1 h2] at hc
    have := TL.numL_digits n c hc
    omega
  · rw [wordL_path h1 h2] at hc
    rcases h3.chr hc with e | e <;> omega
  · rw [wordL_call h1 h2, List.mem_append] at hc
    rcases hc with hc | hc
    · rcases h3.chr hc with e | e <;> omega
    · simp only [List.mem_cons, List.not_mem_nil, or_false] at hc
      omega
theorem wordL_ne {t : Tm} (h : TermOk t) : wordL t ≠ [] := by
  rcases h.th with ⟨h1, n, h2, h3⟩ | ⟨h1 | h1, ns, h2, h3⟩
  · rw [wordL_num h1 h2]
    exact TL.numL_ne n
  · rw [wordL_path h1 h2]
    exact List.length_pos_iff.mp h3.ne
  · rw [wordL_call h1 h2]
    simp
abbrev sgL (t : Tm) : List Nat := if decide (t.1 = 1) = true then [32, 43, 32] else [32, 45, 32]
theorem sgL_len (t : Tm) : (sgL t).length = 3 := by
  unfold sgL
  split <;> rfl
def sg1 (t : Tm) : List Nat := if decide (t.1 = 1) = true then [43] else [45]
theorem sgL_eq (t : Tm) : sgL t = [32] ++ sg1 t ++ [32] := by
  unfold sgL sg1
  cases decide (t.1 = 1) <;> rfl
def textStep (s : List Nat) (t : Tm) : List Nat := s ++ sgL t ++ wordL t
def textL (ts : List Tm) : List Nat := match ts with
  | [] => []
  | t :: ts => ts.foldl textStep (wordL t)
def wordsT : List Tm → List (List Nat)
  | [] => []
  | t :: ts => sg1 t :: wordL t :: wordsT ts
theorem foldl_len {ts : List Tm} (h : ∀ t ∈ ts, TermOk t) : ∀ s : List Nat, (ts.foldl textStep s).length ≤ s.length + 43 * ts.length := by
  induction ts with
  | nil => intro s; exact Nat.le_refl _
  | cons t ts ih =>
    intro s
    have q := ih (fun t ht => h t (List.mem_cons_of_mem _ ht)) (textStep s t)
    have w := wordL_len (h t List.mem_cons_self)
    have g := sgL_len t
    unfold textStep at q
    rw [List.length_append, List.length_append] at q
    rw [List.foldl_cons, List.length_cons]
    unfold textStep
    omega
theorem textL_len {ts : List Tm} (h : TermsOk ts) : (textL ts).length ≤ 1000 := by
  cases ts with
  | nil => exact absurd h.pos (by decide)
  | cons t ts =>
    have q := foldl_len (fun t ht => h.all t (List.mem_cons_of_mem _ ht)) (wordL t)
    have w := wordL_len (h.all t List.mem_cons_self)
    have f := h.few
    rw [List.length_cons] at f
    show (ts.foldl textStep (wordL t)).length ≤ 1000
    omega
theorem joinL_snoc (s : List Nat) : ∀ (ls : List (List Nat)) (a : List Nat), ls ≠ [] → TL.joinL s (ls ++ [a]) = TL.joinL s ls ++ (s ++ a)
  | [], _, h => absurd rfl h
  | [p], a, _ => by
    show p ++ (s ++ a) = _
    rfl
  | p :: q :: r, a, _ => by
    have ih := joinL_snoc s (q :: r) a (by simp)
    show p ++ (s ++ TL.joinL s ((q :: r) ++ [a])) = p ++ (s ++ TL.joinL s (q :: r)) ++ (s ++ a)
    rw [ih]
    simp only [List.append_assoc]
theorem text_fold : ∀ (ts : List Tm) (ws : List (List Nat)), ws ≠ [] → ts.foldl textStep (joinS [32] ws) = joinS [32] (ws ++ wordsT ts)
  | [], ws, _ => by
    show joinS [32] ws = joinS [32] (ws ++ [])
    rw [List.append_nil]
  | t :: ts, ws, h => by
    have e : textStep (joinS [32] ws) t = joinS [32] (ws ++ [sg1 t] ++ [wordL t]) := by
      unfold textStep
      rw [joinS_eq, joinS_eq, joinL_snoc _ _ _ (by simp), joinL_snoc _ _ _ h, sgL_eq]
      simp only [List.append_assoc]
    rw [List.foldl_cons, e, text_fold ts _ (by simp)]
    simp only [wordsT, List.append_assoc]
    rfl
theorem textL_join (t : Tm) (ts : List Tm) : textL (t :: ts) = joinS [32] (wordL t :: wordsT ts) := by
  show ts.foldl textStep (wordL t) = _
  have e : wordL t = joinS [32] [wordL t] := (joinS_one _ _).symm
  rw [e, text_fold ts _ (by simp)]
  rw [joinS_one]
  rfl
theorem words_len : ∀ ts : List Tm, (wordsT ts).length = 2 * ts.length
  | [] => rfl
  | t :: ts => by
    show (wordsT ts).length + 1 + 1 = 2 * (ts.length + 1)
    rw [words_len ts]
    omega
theorem words_get : ∀ (ts : List Tm) (j : Nat) (t : Tm), ts[j]? = some t → (wordsT ts)[2 * j]? = some (sg1 t) ∧ (wordsT ts)[2 * j + 1]? = some (wordL t)
  | [], j, t, h => by simp at h
  | u :: ts, 0, t, h => by
    simp at h
    subst h
    exact ⟨rfl, rfl⟩
  | u :: ts, j + 1, t, h => by
    have q := words_get ts j t (by simpa using h)
    have e : 2 * (j + 1) = 2 * j + 1 + 1 := by omega
    rw [e]
    exact ⟨by simpa [wordsT] using q.1, by simpa [wordsT] using q.2⟩
theorem words_free {ts : List Tm} (h : ∀ t ∈ ts, TermOk t) : ∀ w ∈ wordsT ts, 32 ∉ w := by
  induction ts with
  | nil => intro w hw; cases hw
  | cons t ts ih =>
    intro w hw
    have hw' : w = sg1 t ∨ w = wordL t ∨ w ∈ wordsT ts := by simpa [wordsT] using hw
    rcases hw' with e | e | e
    · subst e
      unfold sg1
      split <;> decide
    · subst e
      exact fun hc => absurd (wordL_chr (h t (by simp)) hc) (by decide)
    · exact ih (fun t ht => h t (List.mem_cons_of_mem _ ht)) w e
theorem text_words {t0 : Tm} {ts : List Tm} (h : TermsOk (t0 :: ts)) : splitS (textL (t0 :: ts)) [32] = wordL t0 :: wordsT ts := by
  rw [textL_join]
  refine split_join (by decide) (by simp) fun w hw => ?_
  rcases List.mem_cons.mp hw with e | e
  · subst e
    exact fun hc => absurd (wordL_chr (h.all t0 (by simp)) hc) (by decide)
  · exact words_free (fun t ht => h.all t (List.mem_cons_of_mem _ ht)) w e

theorem wordF_eq {t : Tm} (h : TermOk t) : wordF t = .ok (wordL t) := by
  unfold wordF c_word wordL
  rcases h.th with ⟨h1, n, h2, h3⟩ | ⟨h1 | h1, ns, h2, h3⟩
  · simp only [chk_true, isOk_ok, isOk_err, get_okE, bnd_eq, bndO_okE, bndO_errE, bind_goE, bind_retE, up_retE, out_retE, out_goE, bind_iteE, up_iteE, out_iteE, try_okE, true_and, and_true, and_self, forall_const, implies_true, h1, h2]
    rw [if_pos (by decide), chk_pos ⟨rfl, log_lt h3⟩]
    rfl
  · simp only [chk_true, isOk_ok, isOk_err, get_okE, bnd_eq, bndO_okE, bndO_errE, bind_goE, bind_retE, up_retE, out_retE, out_goE, bind_iteE, up_iteE, out_iteE, try_okE, true_and, and_true, and_self, forall_const, implies_true, h1, h2]
    rw [if_neg (by decide), chk_pos ⟨rfl, h3.jok (Nat.le_refl 4), by decide, by decide, by decide, by show _ + 0 ≤ 16000000; have := h3.len (Nat.le_refl 4); dsimp only [Thing.as_path]; omega⟩]
    exact congrArg Out.ok (List.append_nil _)
  · simp only [chk_true, isOk_ok, isOk_err, get_okE, bnd_eq, bndO_okE, bndO_errE, bind_goE, bind_retE, up_retE, out_retE, out_goE, bind_iteE, up_iteE, out_iteE, try_okE, true_and, and_true, and_self, forall_const, implies_true, h1, h2]
    rw [if_neg (by decide), chk_pos ⟨rfl, h3.jok (Nat.le_refl 4), by decide, by decide, by decide, by show _ + 2 ≤ 16000000; have := h3.len (Nat.le_refl 4); dsimp only [Thing.as_path]; omega⟩]
    rfl

theorem textF_eq {ts : List Tm} (h : TermsOk ts) : textF ts = .ok (textL ts) := by
  cases ts with
  | nil => exact absurd h.pos (by decide)
  | cons t ts =>
    have w0 := wordL_len (h.all t List.mem_cons_self)
    have f := h.few
    rw [List.length_cons] at f
    unfold textF c_text textL
    rw [chk_pos ⟨by omega, by rw [List.length_cons]; omega⟩, ix_zero, wordF_eq (h.all t List.mem_cons_self), bndO_okE, cut_one]
    rw [(loop_foldI (fun n s => s.length ≤ 40 + 43 * n) textStep ts 0 (wordL t) (by omega) fun i s y hy hp => by
      have hi := (List.getElem?_eq_some_iff.mp hy).1
      have hy' := h.all y (List.mem_cons_of_mem _ (List.mem_of_getElem? hy))
      have w := wordL_len hy'
      have e : ix ([[32, 45, 32], [32, 43, 32]] : List (List Nat)) (if decide (y.1 = 1) = true then 1 else 0 : Int) [] = sgL y := by
        unfold sgL
        cases decide (y.1 = 1) <;> rfl
      have g := sgL_len y
      simp only [wordF_eq hy', e, chk_true, isOk_ok, isOk_err, get_okE, bnd_eq, bndO_okE, bndO_errE, bind_goE, bind_retE, up_retE, out_retE, out_goE, bind_iteE, up_iteE, out_iteE, try_okE, true_and, and_true, and_self, forall_const, implies_true]
      rw [chk_pos ⟨if_ix (Nat.le_refl 2), by rw [LMax_eq]; omega, by rw [List.length_append, LMax_eq]; omega⟩]
      refine ⟨rfl, ?_⟩
      unfold textStep
      rw [List.length_append, List.length_append]
      omega).1]
    rfl

/-! expressions read -/
theorem mem_figs {c : Nat} (h : c ∈ FIGURES) : 48 ≤ c ∧ c ≤ 57 := by
  unfold FIGURES at h
  simp only [List.mem_cons, List.not_mem_nil, or_false] at h
  omega
def writtenL (s : List Nat) : Bool := decide ((1 : Int) ≤ (s.length : Int)) && decide ((s.length : Int) ≤ (20 : Int)) && (s.all fun c => decide (c ∈ FIGURES)) && (decide (s = [48]) || !decide ([ix s 0 0] = [48]))
theorem writtenF_eq (s : List Nat) : writtenF s = .ok (writtenL s) := by
  unfold writtenF c_is_written writtenL
  rw [loop_allC (q := fun c => decide (c ∈ FIGURES)) (o := .ok false) (fun c _ => by cases decide (c ∈ FIGURES) <;> rfl)]
  by_cases h : (1 : Int) ≤ (s.length : Int)
  · rw [chk_pos fun _ => ⟨by omega, by omega⟩, decide_eq_true h]
    cases decide ((s.length : Int) ≤ (20 : Int)) <;> cases s.all (fun c => decide (c ∈ FIGURES)) <;> rfl
  · rw [decide_eq_false h]
    rfl
theorem written_digits {s : List Nat} (h : writtenL s = true) : NumText.AllDigits s ∧ s ≠ [] ∧ s.length ≤ 20 := by
  unfold writtenL at h
  simp only [Bool.and_eq_true, decide_eq_true_eq, List.all_eq_true] at h
  obtain ⟨⟨⟨h1, h2⟩, h3⟩, _⟩ := h
  refine ⟨fun c hc => mem_figs (h3 c hc), fun e => ?_, by omega⟩
  rw [e] at h1
  exact absurd h1 (by decide)
def noExpr : Exn := ⟨"NoExpr", []⟩
def signL (s : List Nat) : Out Int := if decide (s = [43]) = true then .ok 1 else if decide (s = [45]) = true then .ok (-1) else .err noExpr
theorem signF_eq (s : List Nat) : signF s = signL s := by
  unfold signF c_sign_of signL
  cases decide (s = [43]) <;> cases decide (s = [45]) <;> rfl
def thingL (s : List Nat) : Out (List Nat × Thing) :=
  if writtenL s = true then .ok (NUM, .num (natOf s))
  else if decide (cutL s (some (-2)) none = [40, 41]) = true then
    if allOk (splitS (cutL s none (some (-2))) [46]) 4 = true then .ok (CALL, .path (splitS (cutL s none (some (-2))) [46])) else .err noExpr
  else if allOk (splitS s [46]) 4 = true then .ok (PATH, .path (splitS s [46])) else .err noExpr
theorem thingF_eq (s : List Nat) : thingF s = thingL s := by
  unfold thingF c_thing_of thingL
  simp only [writtenF_eq, areNamesF_eq, chk_true, isOk_ok, isOk_err, get_okE, bnd_eq, bndO_okE, bndO_errE, bind_goE, bind_retE, up_retE, out_retE, out_goE, bind_iteE, up_iteE, out_iteE, try_okE, true_and, and_true, and_self, forall_const, implies_true]
  cases hw : writtenL s with
  | true =>
    have w := written_digits hw
    rw [if_pos rfl, if_pos rfl, chk_pos ⟨w.1, w.2.1, by omega⟩]
    rfl
  | false =>
    rw [if_neg Bool.false_ne_true, if_neg Bool.false_ne_true]
    cases decide (cutL s (some (-2)) none = [40, 41]) with
    | true =>
      simp only [if_true, chk_true, isOk_ok, isOk_err, get_okE, bnd_eq, bndO_okE, bndO_errE, bind_goE, bind_retE, up_retE, out_retE, out_goE, bind_iteE, up_iteE, out_iteE, try_okE, true_and, and_true, and_self, forall_const, implies_true]
      cases allOk (splitS (cutL s none (some (-2))) [46]) 4 <;> rfl
    | false =>
      simp only [Bool.false_eq_true, if_false, chk_true, isOk_ok, isOk_err, get_okE, bnd_eq, bndO_okE, bndO_errE, bind_goE, bind_retE, up_retE, out_retE, out_goE, bind_iteE, up_iteE, out_iteE, try_okE, true_and, and_true, and_self, forall_const, implies_true]
      cases allOk (splitS s [46]) 4 <;> rfl
def readStep (ws : List (List Nat)) (acc : List Tm) (k : Int) : Out (List Tm) :=
  (if decide ((0 : Int) < k) = true then signL (ix ws (k - 1) []) else .ok 1).bind fun sg => (thingL (ix ws k [])).bind fun t => .ok (acc ++ [(sg, t.1, t.2)])
def readL (s : List Nat) : Out (List Tm) :=
  if (decide (((splitS s [32]).length : Int) % 2 = 0) || decide ((11 : Int) < ((splitS s [32]).length : Int))) = true then .err noExpr
  else foldO (readStep (splitS s [32])) [] (rintsS 0 2 (rngN 0 ((splitS s [32]).length : Int) 2))
theorem readStep_len {ws : List (List Nat)} {acc acc' : List Tm} {k : Int} (h : readStep ws acc k = .ok acc') : acc'.length = acc.length + 1 := by
  unfold readStep at h
  cases h1 : (if decide ((0 : Int) < k) = true then signL (ix ws (k - 1) []) else .ok 1) with
  | ok v =>
    rw [h1] at h
    cases h2 : thingL (ix ws k []) with
    | ok t =>
      have h : (thingL (ix ws k [])).bind (fun t => .ok (acc ++ [(v, t.1, t.2)])) = .ok acc' := h
      rw [h2] at h
      injection h with h
      rw [← h, List.length_append]
      rfl
    | err e =>
      have h : (thingL (ix ws k [])).bind (fun t => .ok (acc ++ [(v, t.1, t.2)])) = .ok acc' := h
      rw [h2] at h
      cases h
    | stk =>
      have h : (thingL (ix ws k [])).bind (fun t => .ok (acc ++ [(v, t.1, t.2)])) = .ok acc' := h
      rw [h2] at h
      cases h
  | err e =>
    rw [h1] at h
    cases h
  | stk =>
    rw [h1] at h
    cases h
theorem readF_eq (s : List Nat) : readF s = readL s := by
  unfold readF c_read_expr readL
  simp only [Bool.not_true, Bool.false_eq_true, if_false, chk_true, isOk_ok, isOk_err, get_okE, bnd_eq, bndO_okE, bndO_errE, bind_goE, bind_retE, up_retE, out_retE, out_goE, bind_iteE, up_iteE, out_iteE, try_okE, true_and, and_true, and_self, forall_const, implies_true]
  rw [show ((2 : Int) * 6 - 1) = 11 from rfl]
  cases hc : decide (((splitS s [32]).length : Int) % 2 = 0) || decide ((11 : Int) < ((splitS s [32]).length : Int)) with
  | true => rfl
  | false =>
    rw [if_neg Bool.false_ne_true, if_neg Bool.false_ne_true]
    rw [Bool.or_eq_false_iff] at hc
    have h1 := of_decide_eq_false hc.1
    have h2 := of_decide_eq_false hc.2
    have hn : rngN 0 ((splitS s [32]).length : Int) 2 ≤ 6 := by
      rw [rngN_two]
      omega
    have hsm : Builtin.Range.small (0 : Int) ((splitS s [32]).length : Int) (2 : Int) = true := by
      have : ∀ n : Nat, n ≤ 11 → Builtin.Range.small (0 : Int) (n : Int) (2 : Int) = true := by decide +kernel
      exact this _ (by omega)
    rw [chk_pos hsm]
    rw [loop_foldO (fun n s => s.length = n) (readStep (splitS s [32])) _ 0 [] rfl fun i acc k hk hp => ?_]
    · cases foldO (readStep (splitS s [32])) [] (rintsS 0 2 (rngN 0 ((splitS s [32]).length : Int) 2)) <;> rfl
    · have hi := (List.getElem?_eq_some_iff.mp hk).1
      rw [rintsS_len] at hi
      have hm := rints_two (List.mem_of_getElem? hk)
      have hk1 : -((splitS s [32]).length : Int) ≤ k ∧ k < ((splitS s [32]).length : Int) := ⟨by omega, by omega⟩
      have hl : acc.length < sizeLine := by
        rw [sizeLine_eq]
        omega
      refine ⟨?_, fun acc' h => by rw [readStep_len h, hp]⟩
      unfold readStep
      simp only [signF_eq, thingF_eq, bnd_eq]
      cases h0 : decide ((0 : Int) < k) with
      | true =>
        have h0' := of_decide_eq_true h0
        rw [if_pos rfl, if_pos rfl, chk_pos ⟨by omega, by omega⟩]
        cases signL (ix (splitS s [32]) (k - 1) []) with
        | ok v =>
          show Co.bind (.go v) _ = _
          rw [bind_goE, chk_pos hk1]
          cases thingL (ix (splitS s [32]) k []) with
          | ok t =>
            show chk _ _ = _
            rw [chk_pos hl]
            rfl
          | err e => rfl
          | stk => rfl
        | err e => rfl
        | stk => rfl
      | false =>
        rw [if_neg Bool.false_ne_true, if_neg Bool.false_ne_true, chk_pos hk1]
        cases thingL (ix (splitS s [32]) k []) with
        | ok t =>
          show chk _ _ = _
          rw [chk_pos hl]
          rfl
        | err e => rfl
        | stk => rfl
def hasCallL (ts : List Tm) : Bool := ts.any (fun t => decide (t.2.1 = CALL))
theorem hasCallF_eq (ts : List Tm) : hasCallF ts = .ok (hasCallL ts) := by
  unfold hasCallF c_has_call hasCallL
  rw [loop_findC (q := fun t : Tm => decide (t.2.1 = CALL)) (o := fun _ => .ok true) fun t _ => by cases decide (t.2.1 = CALL) <;> rfl]
  cases h : ts.find? (fun t => decide (t.2.1 = CALL)) with
  | none =>
    rw [List.find?_eq_none] at h
    have : ts.any (fun t => decide (t.2.1 = CALL)) = false := by
      rw [List.any_eq_false]
      exact h
    rw [this]
    rfl
  | some t =>
    have : ts.any (fun t => decide (t.2.1 = CALL)) = true := List.any_eq_true.mpr ⟨t, List.mem_of_find?_eq_some h, List.find?_some (p := fun t : Tm => decide (t.2.1 = CALL)) h⟩
    rw [this]
    rfl
theorem numL_head : ∀ (n : Nat), 0 < n → ∃ c r, TL.numL n = c :: r ∧ 49 ≤ c := by
  intro n
  induction n using Nat.strongRecOn with
  | ind n ih =>
    intro h
    by_cases h10 : n < 10
    · exact ⟨48 + n, [], TL.numL_lt h10, by omega⟩
    · obtain ⟨c, r, e, hc⟩ := ih (n / 10) (by omega) (by omega)
      exact ⟨c, r ++ [48 + n % 10], by rw [TL.numL_step (by omega), e]; rfl, hc⟩
theorem written_num {n : Nat} (h : n < 10 ^ 20) : writtenL (TL.numL n) = true := by
  have hl := TL.numL_len (n := n) (k := 20) (by decide) h
  have hp := List.length_pos_iff.mpr (TL.numL_ne n)
  have hd := TL.numL_digits n
  unfold writtenL
  have e1 : (TL.numL n).all (fun c => decide (c ∈ FIGURES)) = true := by
    rw [List.all_eq_true]
    intro c hc
    have := hd c hc
    refine decide_eq_true ?_
    unfold FIGURES
    simp only [List.mem_cons, List.not_mem_nil, or_false]
    omega
  rw [e1, decide_eq_true (show (1 : Int) ≤ ((TL.numL n).length : Int) by omega), decide_eq_true (show ((TL.numL n).length : Int) ≤ 20 by omega)]
  by_cases h0 : n = 0
  · subst h0
    rfl
  · obtain ⟨c, r, e, hc⟩ := numL_head n (by omega)
    rw [e, ix_zero]
    have : ([c] : List Nat) ≠ [48] := by
      intro z
      injection z with z
      omega
    rw [decide_eq_false this]
    show (true && true && true && (_ || !false)) = true
    simp
theorem names_head {n : Nat} {ns : List (List Nat)} (h : Path n ns) (k : List Nat) : writtenL (joinS [46] ns ++ k) = false := by
  cases ns with
  | nil => exact absurd h.pos (by decide)
  | cons p r =>
    have hp := h.all p (by simp)
    cases p with
    | nil => exact absurd hp.pos (by decide)
    | cons c p =>
      have hc := ltr_lt (hp.ltr c (by simp))
      have hm : c ∈ joinS [46] ((c :: p) :: r) ++ k := by
        rw [joinS_eq, List.mem_append]
        refine .inl ?_
        cases r with
        | nil => exact List.mem_cons_self
        | cons q r => exact List.mem_append_left _ List.mem_cons_self
      apply Bool.eq_false_iff.mpr
      intro z
      have := (written_digits z).1 c hm
      omega
theorem cut_end (s : List Nat) : cutL (s ++ [40, 41]) (some (-2)) none = [40, 41] ∧ cutL (s ++ [40, 41]) none (some (-2)) = s := by
  have e : HT.sIx (s ++ [40, 41]).length 0 (some (-2)) = s.length ∧ HT.sIx (s ++ [40, 41]).length (s ++ [40, 41]).length (some (-2)) = s.length := by
    have e0 : (s ++ [40, 41]).length = s.length + 2 := by rw [List.length_append]; rfl
    rw [e0]
    unfold HT.sIx
    simp only [show (-2 : Int) < 0 from by decide, if_true]
    omega
  unfold cutL
  rw [e.1, e.2]
  refine ⟨?_, ?_⟩
  · rw [List.drop_left, List.length_append]
    show ([40, 41] : List Nat).take (s.length + 2 - s.length) = _
    rw [show s.length + 2 - s.length = 2 by omega]
    rfl
  · show ((s ++ [40, 41]).drop 0).take (s.length - 0) = s
    rw [Nat.sub_zero, List.drop_zero, List.take_left]
theorem thing_word {t : Tm} (h : TermOk t) : thingL (wordL t) = .ok (t.2.1, t.2.2) := by
  rcases h.th with ⟨h1, n, h2, h3⟩ | ⟨h1 | h1, ns, h2, h3⟩
  · rw [wordL_num h1 h2, h1, h2]
    unfold thingL
    rw [if_pos (written_num h3)]
    unfold natOf
    rw [TL.numL_val]
  · rw [wordL_path h1 h2, h1, h2]
    unfold thingL
    have e := names_head h3 []
    rw [List.append_nil] at e
    rw [if_neg (by rw [e]; exact Bool.false_ne_true)]
    have e2 : decide (cutL (joinS [46] ns) (some (-2)) none = [40, 41]) = false := by
      apply decide_eq_false
      intro z
      have hm : (40 : Nat) ∈ cutL (joinS [46] ns) (some (-2)) none := by rw [z]; simp
      rcases h3.chr (cutL_sub hm) with q | q <;> omega
    rw [e2, if_neg Bool.false_ne_true, h3.split, if_pos (show allOk ns 4 = true from h3.ok)]
  · rw [wordL_call h1 h2, h1, h2]
    unfold thingL
    rw [if_neg (by rw [names_head h3]; exact Bool.false_ne_true)]
    obtain ⟨c1, c2⟩ := cut_end (joinS [46] ns)
    rw [if_pos (decide_eq_true c1), c2, h3.split, if_pos (show allOk ns 4 = true from h3.ok)]
theorem sign_word {t : Tm} (h : TermOk t) : signL (sg1 t) = .ok t.1 := by
  unfold sg1
  rcases h.sg with e | e <;> rw [e] <;> rfl
theorem read_step {t0 : Tm} {ts : List Tm} (h : TermsOk (t0 :: ts)) {j : Nat} {t : Tm} (e : (t0 :: ts)[j]? = some t) (acc : List Tm) : readStep (wordL t0 :: wordsT ts) acc (0 + (j : Int) * 2) = .ok (acc ++ [t]) := by
  have ht := h.all t (List.mem_of_getElem? e)
  unfold readStep
  cases j with
  | zero =>
    simp at e
    subst e
    have e1 : ix (wordL t0 :: wordsT ts) (0 + ((0 : Nat) : Int) * 2) [] = wordL t0 := ix_zero
    rw [e1, thing_word ht]
    have f := h.first t0 rfl
    show Out.ok (acc ++ [((1 : Int), t0.2.1, t0.2.2)]) = _
    rw [← f]
  | succ j =>
    have e' : ts[j]? = some t := by simpa using e
    obtain ⟨q1, q2⟩ := words_get ts j t e'
    have e1 : (0 + ((j + 1 : Nat) : Int) * 2 - 1) = ((2 * j + 1 : Nat) : Int) := by omega
    have e2 : (0 + ((j + 1 : Nat) : Int) * 2) = ((2 * j + 2 : Nat) : Int) := by omega
    have e3 : decide (0 < 0 + ((j + 1 : Nat) : Int) * 2) = true := decide_eq_true (by omega)
    have k1 : ix (wordL t0 :: wordsT ts) ((2 * j + 1 : Nat) : Int) [] = sg1 t := ix_some (by simpa using q1)
    have k2 : ix (wordL t0 :: wordsT ts) ((2 * j + 2 : Nat) : Int) [] = wordL t := ix_some (by simpa using q2)
    rw [e3, e1, e2, k1, k2, if_pos rfl, sign_word ht, thing_word ht]
    rfl
theorem read_fold {t0 : Tm} {ts : List Tm} (h : TermsOk (t0 :: ts)) : ∀ j : Nat, j ≤ (t0 :: ts).length → foldO (readStep (wordL t0 :: wordsT ts)) [] (rintsS 0 2 j) = .ok ((t0 :: ts).take j)
  | 0, _ => rfl
  | j + 1, hj => by
    have hl : j < (t0 :: ts).length := by omega
    have ih := read_fold h j (by omega)
    have e := List.getElem?_eq_getElem hl
    unfold rintsS at ih ⊢
    rw [List.range_succ, List.map_append, foldO_app, ih]
    show foldO (readStep (wordL t0 :: wordsT ts)) ((t0 :: ts).take j) [0 + (j : Int) * 2] = _
    show (readStep (wordL t0 :: wordsT ts) ((t0 :: ts).take j) (0 + (j : Int) * 2)).bind _ = _
    rw [read_step h e]
    show Out.ok _ = _
    congr 1
    rw [List.take_add_one, e]
    rfl
/-- what is read from a text is the expression -/
theorem read_text {ts : List Tm} (h : TermsOk ts) : readL (textL ts) = .ok ts := by
  cases ts with
  | nil => exact absurd h.pos (by decide)
  | cons t0 ts =>
    have hf := h.few
    rw [List.length_cons] at hf
    unfold readL
    rw [text_words h]
    have hl : (wordL t0 :: wordsT ts).length = 2 * ts.length + 1 := by rw [List.length_cons, words_len]
    have hn : rngN 0 ((wordL t0 :: wordsT ts).length : Int) 2 = (t0 :: ts).length := by
      rw [rngN_two, hl, List.length_cons]
      omega
    have c1 : decide (((wordL t0 :: wordsT ts).length : Int) % 2 = 0) = false := decide_eq_false (by rw [hl]; omega)
    have c2 : decide ((11 : Int) < ((wordL t0 :: wordsT ts).length : Int)) = false := decide_eq_false (by rw [hl]; omega)
    rw [c1, c2, Bool.or_self, if_neg Bool.false_ne_true, hn]
    rw [read_fold h _ (Nat.le_refl _), List.take_length]

theorem TermOk.one {t : Tm} (h : TermOk t) : TermOk (1, t.2.1, t.2.2) := ⟨.inl rfl, h.th⟩
theorem showTermF_eq {t : Tm} (h : TermOk t) : showTermF t.2.1 t.2.2 = .ok (wordL t) := by
  unfold showTermF c_show_term wordL
  rcases h.th with ⟨h1, n, h2, h3⟩ | ⟨h1 | h1, ns, h2, h3⟩
  · simp only [chk_true, isOk_ok, isOk_err, get_okE, bnd_eq, bndO_okE, bndO_errE, bind_goE, bind_retE, up_retE, out_retE, out_goE, bind_iteE, up_iteE, out_iteE, try_okE, true_and, and_true, and_self, forall_const, implies_true, h1, h2]
    rw [if_pos (by decide), chk_pos ⟨rfl, log_lt h3⟩]
    rfl
  · simp only [chk_true, isOk_ok, isOk_err, get_okE, bnd_eq, bndO_okE, bndO_errE, bind_goE, bind_retE, up_retE, out_retE, out_goE, bind_iteE, up_iteE, out_iteE, try_okE, true_and, and_true, and_self, forall_const, implies_true, h1, h2]
    rw [if_neg (by decide), chk_pos ⟨rfl, h3.jok (Nat.le_refl 4)⟩]
    rfl
  · simp only [chk_true, isOk_ok, isOk_err, get_okE, bnd_eq, bndO_okE, bndO_errE, bind_goE, bind_retE, up_retE, out_retE, out_goE, bind_iteE, up_iteE, out_iteE, try_okE, true_and, and_true, and_self, forall_const, implies_true, h1, h2]
    rw [if_neg (by decide), chk_pos ⟨rfl, h3.jok (Nat.le_refl 4)⟩, chk_pos (by show _ + 2 ≤ 16000000; have := h3.len (Nat.le_refl 4); dsimp only [Thing.as_path]; omega)]
    rfl
def showStep (s : List Nat) (t : Tm) : List Nat := if decide (s = []) = true then s ++ wordL t else textStep s t
theorem fold_show {ts : List Tm} : ∀ {s : List Nat}, s ≠ [] → ts.foldl showStep s = ts.foldl textStep s := by
  induction ts with
  | nil => intro s _; rfl
  | cons t ts ih =>
    intro s h
    rw [List.foldl_cons, List.foldl_cons]
    have e : showStep s t = textStep s t := by
      unfold showStep
      rw [decide_eq_false h, if_neg Bool.false_ne_true]
    rw [e]
    refine ih ?_
    unfold textStep
    simp [h]
theorem showF_eq {ts : List Tm} (h : TermsOk ts) : showF ts = .ok (textL ts) := by
  have f := h.few
  unfold showF c_show_expr
  rw [bnd_eq, (loop_foldI (fun n s => s.length ≤ 43 * n) showStep ts 0 [] (Nat.le_refl 0) fun i s y hy hp => by
    have hi := (List.getElem?_eq_some_iff.mp hy).1
    have hy' := h.all y (List.mem_of_getElem? hy)
    have w := wordL_len hy'
    have g := sgL_len y
    simp only [showTermF_eq hy', chk_true, isOk_ok, isOk_err, get_okE, bnd_eq, bndO_okE, bndO_errE, bind_goE, bind_retE, up_retE, out_retE, out_goE, bind_iteE, up_iteE, out_iteE, try_okE, true_and, and_true, and_self, forall_const, implies_true]
    unfold showStep textStep sgL
    cases h1 : decide (s = []) with
    | true =>
      have h1' := of_decide_eq_true h1
      simp only [Bool.not_true, Bool.false_and, Bool.false_eq_true, if_false, if_true, chk_true, isOk_ok, isOk_err, get_okE, bnd_eq, bndO_okE, bndO_errE, bind_goE, bind_retE, up_retE, out_retE, out_goE, bind_iteE, up_iteE, out_iteE, try_okE, true_and, and_true, and_self, forall_const, implies_true]
      rw [chk_pos (by rw [LMax_eq]; omega)]
      exact ⟨rfl, by rw [List.length_append]; omega⟩
    | false =>
      cases h2 : decide (y.1 = 1) with
      | true =>
        simp only [Bool.not_false, Bool.true_and, Bool.and_true, Bool.false_eq_true, if_false, if_true, chk_true, isOk_ok, isOk_err, get_okE, bnd_eq, bndO_okE, bndO_errE, bind_goE, bind_retE, up_retE, out_retE, out_goE, bind_iteE, up_iteE, out_iteE, try_okE, true_and, and_true, and_self, forall_const, implies_true]
        rw [chk_pos (by rw [LMax_eq]; show _ + 3 ≤ _; omega)]
        simp only [chk_true, isOk_ok, isOk_err, get_okE, bnd_eq, bndO_okE, bndO_errE, bind_goE, bind_retE, up_retE, out_retE, out_goE, bind_iteE, up_iteE, out_iteE, try_okE, true_and, and_true, and_self, forall_const, implies_true]
        rw [chk_pos (by rw [LMax_eq, List.length_append]; show _ + 3 + _ ≤ _; omega)]
        exact ⟨rfl, by rw [List.length_append, List.length_append]; show _ + 3 + _ ≤ _; omega⟩
      | false =>
        simp only [Bool.not_false, Bool.true_and, Bool.and_false, Bool.false_eq_true, if_false, if_true, chk_true, isOk_ok, isOk_err, get_okE, bnd_eq, bndO_okE, bndO_errE, bind_goE, bind_retE, up_retE, out_retE, out_goE, bind_iteE, up_iteE, out_iteE, try_okE, true_and, and_true, and_self, forall_const, implies_true]
        rw [chk_pos (by rw [LMax_eq]; show _ + 3 ≤ _; omega)]
        simp only [chk_true, isOk_ok, isOk_err, get_okE, bnd_eq, bndO_okE, bndO_errE, bind_goE, bind_retE, up_retE, out_retE, out_goE, bind_iteE, up_iteE, out_iteE, try_okE, true_and, and_true, and_self, forall_const, implies_true]
        rw [chk_pos (by rw [LMax_eq, List.length_append]; show _ + 3 + _ ≤ _; omega)]
        exact ⟨rfl, by rw [List.length_append, List.length_append]; show _ + 3 + _ ≤ _; omega⟩).1]
  cases ts with
  | nil => exact absurd h.pos (by decide)
  | cons t ts =>
    show Out.ok (ts.foldl showStep (showStep [] t)) = Out.ok (ts.foldl textStep (wordL t))
    have e : showStep [] t = wordL t := rfl
    rw [e, fold_show (wordL_ne (h.all t (by simp)))]

noncomputable def addressL (c : Int) : List Nat := (addressF c).get []
theorem rints_n {n : Int} {m : Nat} (h : n < m) (h0 : 0 ≤ n) : (rints 0 (1 + n).toNat).length ≤ m ∧ 0 < (rints 0 (1 + n).toNat).length := by
  rw [rints_len]
  omega
theorem labels_ok (c : Int) {n : Int} {m : Nat} (h : n < m) (h0 : 0 ≤ n) (hm : m ≤ 100) : (∀ y ∈ rints 0 (1 + n).toNat, (subF c y).IsOk ∧ (labelF ((subF c y).get 0)).IsOk) ∧ Path m (List.map (fun y : Int => (labelF ((subF c y).get 0)).get []) (rints 0 (1 + n).toNat)) := by
  have q := rints_n h h0
  refine ⟨fun y hy => ?_, ?_, ?_, fun x hx => ?_⟩
  · have := rints_mem hy
    rw [subF_eq c (k := y) (by omega) (by omega), get_okE, (labelF_ok _).1]
    exact ⟨trivial, trivial⟩
  · rw [List.length_map]
    exact q.2
  · rw [List.length_map]
    exact q.1
  · obtain ⟨y, hy, rfl⟩ := List.mem_map.mp hx
    have := rints_mem hy
    rw [subF_eq c (k := y) (by omega) (by omega), get_okE]
    rw [(labelF_ok _).1]
    exact (labelF_ok _).2
theorem addressF_ok (c : Int) : addressF c = .ok (addressL c) ∧ ∃ ns, addressL c = joinS [46] ns ∧ Path 3 ns := by
  have k : ∃ ns, addressF c = .ok (joinS [46] ns) ∧ Path 3 ns := by
    have q := pickL_lt c 27 (m := 3) (by decide) (by decide) (by decide)
    have l := labels_ok c (n := pickL c 27 3) (m := 3) q.2 q.1 (by decide)
    have n := rints_n (n := pickL c 27 3) (m := 3) q.2 q.1
    unfold addressF c_address
    simp only [pickF_eq c 27 (m := 3) (by decide) (by decide) (by decide), chk_true, isOk_ok, isOk_err, get_okE, bnd_eq, bndO_okE, bndO_errE, bind_goE, bind_retE, up_retE, out_retE, out_goE, bind_iteE, up_iteE, out_iteE, try_okE, true_and, and_true, and_self, forall_const, implies_true]
    rw [chk_pos ⟨by omega, l.1, by rw [sizeLine_eq]; omega, l.2.jok (by decide)⟩]
    exact ⟨_, rfl, l.2⟩
  obtain ⟨ns, e, h⟩ := k
  unfold addressL
  rw [e]
  exact ⟨rfl, ns, rfl, h⟩

noncomputable def termL (c : Int) (f : Bool) : Tm := (termF c f).get (0, [], .num 0)
theorem term_ex (c : Int) (f : Bool) : ∃ t, termF c f = .ok t ∧ TermOk t ∧ (f = true → t.1 = 1) := by
  have q1 := pickL_lt c 1 (m := 2) (by decide) (by decide) (by decide)
  have q3 := pickL_lt c 3 (m := 4) (by decide) (by decide) (by decide)
  have q4 := pickL_lt c 4 (m := 3) (by decide) (by decide) (by decide)
  have q5 := pickL_lt c 5 (m := 4) (by decide) (by decide) (by decide)
  have l := labels_ok c (n := pickL c 5 4) (m := 4) q5.2 q5.1 (by decide)
  have n := rints_n (n := pickL c 5 4) (m := 4) q5.2 q5.1
  have far := ix_all (P := fun x : Int => 0 < x ∧ x ≤ 10 ^ 20) (xs := [10, 1000, 10 ^ ((10 : Int)).toNat, 10 ^ ((20 : Int)).toNat]) (i := pickL c 3 4) (d := 0) (by decide +kernel) (by show -(4 : Int) ≤ _ ∧ _ < (4 : Int); omega)
  have sg : ix ([1, 1 - 2 * pickL c 1 2] : List Int) (if (!f) = true then 1 else 0 : Int) 0 = 1 ∨ ix ([1, 1 - 2 * pickL c 1 2] : List Int) (if (!f) = true then 1 else 0 : Int) 0 = -1 := by
    cases f with
    | true => exact .inl rfl
    | false =>
      show (1 - 2 * pickL c 1 2 : Int) = 1 ∨ (1 - 2 * pickL c 1 2 : Int) = -1
      omega
  have sf : f = true → ix ([1, 1 - 2 * pickL c 1 2] : List Int) (if (!f) = true then 1 else 0 : Int) 0 = 1 := fun h => by
    subst h
    rfl
  unfold termF c_term
  simp only [pickF_eq c 1 (m := 2) (by decide) (by decide) (by decide), pickF_eq c 2 (m := 4) (by decide) (by decide) (by decide), pickF_eq c 3 (m := 4) (by decide) (by decide) (by decide), pickF_eq c 4 (m := 3) (by decide) (by decide) (by decide), pickF_eq c 5 (m := 4) (by decide) (by decide) (by decide), numberF_eq c far.1, chk_true, isOk_ok, isOk_err, get_okE, bnd_eq, bndO_okE, bndO_errE, bind_goE, bind_retE, up_retE, out_retE, out_goE, bind_iteE, up_iteE, out_iteE, try_okE, true_and, and_true, and_self, forall_const, implies_true]
  rw [chk_two]
  cases decide (pickL c 2 4 = 0) with
  | true =>
    rw [if_pos rfl, chk_pos (by show -(4 : Int) ≤ _ ∧ _ < (4 : Int); omega), chk_pos (by show -(3 : Int) ≤ _ ∧ _ < (3 : Int); omega)]
    refine ⟨_, rfl, ⟨sg, .inl ⟨rfl, ?_⟩⟩, sf⟩
    have qn := numberL_lt c far.1
    generalize hfar : ix ([10, 1000, 10 ^ ((10 : Int)).toNat, 10 ^ ((20 : Int)).toNat] : List Int) (pickL c 3 4) 0 = far' at far qn
    have k := ix_all (P := fun x : Int => 0 ≤ x ∧ x < 10 ^ 20) (xs := [numberL c far', 0, far' - 1]) (i := pickL c 4 3) (d := 0) (fun x hx => by
      simp only [List.mem_cons, List.not_mem_nil, or_false] at hx
      rcases hx with rfl | rfl | rfl <;> omega) (by show -(3 : Int) ≤ _ ∧ _ < (3 : Int); omega)
    refine ⟨(ix ([numberL c far', 0, far' - 1] : List Int) (pickL c 4 3) 0).toNat, ?_, by omega⟩
    rw [Int.toNat_of_nonneg k.1, ← hfar]
  | false =>
    rw [if_neg Bool.false_ne_true, chk_pos ⟨by omega, l.1, by rw [sizeLine_eq]; omega⟩, chk_two]
    refine ⟨_, rfl, ⟨sg, .inr ⟨?_, _, rfl, l.2⟩⟩, sf⟩
    show ix ([PATH, CALL] : List (List Nat)) (if decide (pickL c 2 4 = 3) = true then 1 else 0 : Int) [] = PATH ∨ ix ([PATH, CALL] : List (List Nat)) (if decide (pickL c 2 4 = 3) = true then 1 else 0 : Int) [] = CALL
    cases decide (pickL c 2 4 = 3) with
    | true => exact .inr rfl
    | false => exact .inl rfl
theorem termF_eq (c : Int) (f : Bool) : termF c f = .ok (termL c f) := by
  obtain ⟨t, e, _⟩ := term_ex c f
  unfold termL
  rw [e]
  rfl
theorem termL_ok (c : Int) (f : Bool) : TermOk (termL c f) ∧ (f = true → (termL c f).1 = 1) := by
  obtain ⟨t, e, h⟩ := term_ex c f
  unfold termL
  rw [e]
  exact h
noncomputable def termsL (c : Int) : List Tm := (termsF c).get []
theorem terms_ex (c : Int) : ∃ ts, termsF c = .ok ts ∧ TermsOk ts := by
  have q := pickL_lt c 0 (m := 6) (by decide) (by decide) (by decide)
  have n := rints_n (n := pickL c 0 6) (m := 6) q.2 q.1
  have hs : ∀ y ∈ rints 0 (1 + pickL c 0 6).toNat, subF c (1 + 5 * y) = .ok (subL c (1 + 5 * y)) := fun y hy => by
    have := rints_mem hy
    exact subF_eq c (by omega) (by omega)
  unfold termsF c_terms
  simp only [pickF_eq c 0 (m := 6) (by decide) (by decide) (by decide), termF_eq, chk_true, isOk_ok, isOk_err, get_okE, bnd_eq, bndO_okE, bndO_errE, bind_goE, bind_retE, up_retE, out_retE, out_goE, bind_iteE, up_iteE, out_iteE, try_okE, true_and, and_true, and_self, forall_const, implies_true]
  rw [chk_pos ⟨by omega, fun y hy => by rw [hs y hy]; trivial, by rw [sizeLine_eq]; omega⟩]
  refine ⟨_, rfl, ⟨by rw [List.length_map]; exact n.2, by rw [List.length_map]; exact n.1, fun t ht => ?_, fun t ht => ?_⟩⟩
  · obtain ⟨y, hy, rfl⟩ := List.mem_map.mp ht
    exact (termL_ok _ _).1
  · rw [List.getElem?_map, rints_get (by rw [rints_len] at n; exact n.2)] at ht
    cases ht
    exact (termL_ok _ _).2 rfl
theorem termsF_eq (c : Int) : termsF c = .ok (termsL c) := by
  obtain ⟨t, e, _⟩ := terms_ex c
  unfold termsL
  rw [e]
  rfl
theorem termsL_ok (c : Int) : TermsOk (termsL c) := by
  obtain ⟨t, e, h⟩ := terms_ex c
  unfold termsL
  rw [e]
  exact h

theorem whole_int (i : Int) : wholeF (.int i) = .ok true := by
  unfold wholeF c_whole
  rw [chk_pos ⟨rfl, fun _ => rfl⟩]
  rfl
theorem termIs_refl {t : Tm} (h : TermOk t) : termIsF t t = .ok true := by
  unfold termIsF c_term_is
  simp only [whole_int, chk_true, isOk_ok, isOk_err, get_okE, bnd_eq, bndO_okE, bndO_errE, bind_goE, bind_retE, up_retE, out_retE, out_goE, bind_iteE, up_iteE, out_iteE, try_okE, true_and, and_true, and_self, forall_const, implies_true, Bool.not_true, Bool.false_or, decide_true, Bool.false_eq_true, if_false, Bool.true_and, Bool.and_true]
  rcases h.th with ⟨h1, n, h2, _⟩ | ⟨h1, ns, h2, _⟩
  · rw [h1, h2, decide_eq_true rfl, if_pos rfl]
    have e : wholeF (encThing (.num n)) = .ok true := whole_int _
    simp only [e, chk_true, isOk_ok, isOk_err, get_okE, bnd_eq, bndO_okE, bndO_errE, bind_goE, bind_retE, up_retE, out_retE, out_goE, bind_iteE, up_iteE, out_iteE, try_okE, true_and, and_true, and_self, forall_const, implies_true]
  · have e : decide (t.2.1 = NUM) = false := decide_eq_false (by rcases h1 with h1 | h1 <;> rw [h1] <;> decide)
    rw [e, h2, if_neg Bool.false_ne_true, chk_pos (show plainT (encThing (Thing.path ns)) = true from rfl)]
    rfl
theorem zip_self {α : Type} : ∀ {xs : List α} {p : α × α}, p ∈ xs.zip xs → p.1 = p.2 ∧ p.1 ∈ xs
  | [], _, h => by simp at h
  | x :: xs, p, h => by
    rw [List.zip_cons_cons] at h
    rcases List.mem_cons.mp h with e | e
    · subst e
      exact ⟨rfl, by simp⟩
    · have q := zip_self e
      exact ⟨q.1, List.mem_cons_of_mem _ q.2⟩
theorem termsAre_refl {ts : List Tm} (h : ∀ t ∈ ts, TermOk t) (hl : ts.length ≤ 6) : termsAreF ts ts = .ok true := by
  have hz : ∀ p ∈ ts.zip ts, termIsF p.1 p.2 = .ok true := fun p hp => by
    obtain ⟨e, hm⟩ := zip_self hp
    rw [← e]
    exact termIs_refl (h _ hm)
  unfold termsAreF c_terms_are
  simp only [chk_true, isOk_ok, isOk_err, get_okE, bnd_eq, bndO_okE, bndO_errE, bind_goE, bind_retE, up_retE, out_retE, out_goE, bind_iteE, up_iteE, out_iteE, try_okE, true_and, and_true, and_self, forall_const, implies_true, Bool.not_true, Bool.false_or, decide_true, Bool.false_eq_true, if_false]
  rw [chk_pos ⟨fun p hp => by rw [hz p hp]; trivial, by rw [List.length_zip, sizeLine_eq]; omega⟩]
  show Out.ok _ = _
  congr 1
  rw [List.all_map, List.all_eq_true]
  intro p hp
  show (termIsF p.1 p.2).get false = true
  rw [hz p hp]
  rfl

/-! rows: what they bind, ask and say; the same of the law's own rows -/
abbrev Rw := List Nat × List Nat × List Nat × List Nat × List Tm
abbrev LET : List Nat := [108, 101, 116]
abbrev DEED : List Nat := [100, 101, 101, 100]
abbrev DRAW : List Nat := [100, 114, 97, 119]
abbrev LATE : List Nat := [108, 97, 116, 101]
abbrev TAKE : List Nat := [116, 97, 107, 101]
abbrev NEED : List Nat := [110, 101, 101, 100]
abbrev AS : List Nat := [97, 115]
abbrev BE : List Nat := [98, 101]
abbrev FROM : List Nat := [102, 114, 111, 109]
def Adr (a : List Nat) : Prop := ∃ ns, a = joinS [46] ns ∧ Path 3 ns
theorem Adr.len {a : List Nat} (h : Adr a) : a.length ≤ 36 := by
  obtain ⟨ns, rfl, h⟩ := h
  exact h.len (by decide)
theorem Adr.ok {a : List Nat} (h : Adr a) : addrOk a = true := by
  obtain ⟨ns, rfl, h⟩ := h
  exact h.addr
theorem Adr.no {a : List Nat} (h : Adr a) : 32 ∉ a := by
  obtain ⟨ns, rfl, h⟩ := h
  exact h.no
/-- a row that is as rows are -/
inductive RowOk : RowT → Prop where
  | Let {n : List Nat} {ts : List Tm} (hn : Word1 n) (ht : TermsOk ts) : RowOk (.Let n ts)
  | Deed {n : List Nat} {ts : List Tm} (hn : Word1 n) (ht : TermsOk ts) (hc : hasCallL ts = false) : RowOk (.Deed n ts)
  | Draw {a n : List Nat} (ha : Adr a) (hn : Word1 n) : RowOk (.Draw a n)
  | Late {a n : List Nat} (ha : Adr a) (hn : Word1 n) : RowOk (.Late a n)
  | Take {w a n : List Nat} (hw : Word1 w) (ha : Adr a) (hn : Word1 n) : RowOk (.Take w a n)
  | Need {ts : List Tm} (ht : TermsOk ts) : RowOk (.Need ts)
def bindsR : RowT → List Nat
  | .Let n _ | .Deed n _ | .Draw _ n | .Late _ n | .Take _ _ n => n
  | .Need _ => []
def askedR : RowT → List (List Nat)
  | .Draw a _ | .Late a _ | .Take _ a _ => [a]
  | _ => []
def saidR : RowT → List Nat
  | .Let n ts => LET ++ [32] ++ n ++ [32, 98, 101, 32] ++ textL ts
  | .Deed n ts => DEED ++ [32] ++ n ++ [32, 98, 101, 32] ++ textL ts
  | .Draw a n => DRAW ++ [32] ++ a ++ [32, 97, 115, 32] ++ n
  | .Late a n => LATE ++ [32] ++ a ++ [32, 97, 115, 32] ++ n
  | .Take w a n => [116, 97, 107, 101, 32] ++ w ++ [32, 102, 114, 111, 109, 32] ++ a ++ [32, 97, 115, 32] ++ n
  | .Need ts => [110, 101, 101, 100, 32] ++ textL ts
theorem saidR_len {r : RowT} (h : RowOk r) : (saidR r).length ≤ 1100 := by
  cases h with
  | Let hn ht | Deed hn ht _ =>
    have := hn.few
    have := textL_len ht
    simp only [saidR, List.length_append, List.length_cons, List.length_nil]
    omega
  | Draw ha hn | Late ha hn =>
    have := hn.few
    have := ha.len
    simp only [saidR, List.length_append, List.length_cons, List.length_nil]
    omega
  | Take hw ha hn =>
    have := hn.few
    have := hw.few
    have := ha.len
    simp only [saidR, List.length_append, List.length_cons, List.length_nil]
    omega
  | Need ht =>
    have := textL_len ht
    simp only [saidR, List.length_append, List.length_cons, List.length_nil]
    omega
/-- the words of a row's text -/
def wordsR : RowT → List (List Nat)
  | .Let n ts => LET :: n :: BE :: splitS (textL ts) [32]
  | .Deed n ts => DEED :: n :: BE :: splitS (textL ts) [32]
  | .Draw a n => [DRAW, a, AS, n]
  | .Late a n => [LATE, a, AS, n]
  | .Take w a n => [TAKE, w, FROM, a, AS, n]
  | .Need ts => NEED :: splitS (textL ts) [32]
theorem cons_split (a l : List Nat) : joinS [32] (a :: splitS l [32]) = a ++ ([32] ++ l) := by
  have h := join_split (c := 32) (by decide) l
  have p := splitS_pos (c := 32) (by decide) l
  cases hs : splitS l [32] with
  | nil =>
    rw [hs] at p
    exact absurd p (by decide)
  | cons q r => rw [joinS_two, ← hs, h]
theorem said_join (r : RowT) : saidR r = joinS [32] (wordsR r) := by
  have tl := fun (u : List Nat) (ts : List Tm) => cons_split u (textL ts)
  cases r with
  | Let n ts | Deed n ts =>
    simp only [saidR, wordsR]
    rw [joinS_two, joinS_two, tl]
    simp
  | Draw a n | Late a n =>
    simp only [saidR, wordsR]
    rw [joinS_two, joinS_two, joinS_two, joinS_one]
    simp
  | Take w a n =>
    simp only [saidR, wordsR]
    rw [joinS_two, joinS_two, joinS_two, joinS_two, joinS_two, joinS_one]
    simp
  | Need ts =>
    simp only [saidR, wordsR]
    rw [tl]
    rfl
theorem words_freeR {r : RowT} (h : RowOk r) : ∀ w ∈ wordsR r, 32 ∉ w := by
  have t : ∀ (ts : List Tm), ∀ w ∈ splitS (textL ts) [32], 32 ∉ w := fun ts w hw => (splitS_mem (by decide) hw).2
  intro w hw
  cases h with
  | Let hn ht | Deed hn ht _ =>
    rcases List.mem_cons.mp hw with rfl | hw
    · decide
    · rcases List.mem_cons.mp hw with rfl | hw
      · exact hn.no (by decide)
      · rcases List.mem_cons.mp hw with rfl | hw
        · decide
        · exact t _ w hw
  | Draw ha hn | Late ha hn =>
    simp only [wordsR, List.mem_cons, List.not_mem_nil, or_false] at hw
    rcases hw with rfl | rfl | rfl | rfl
    · decide
    · exact ha.no
    · decide
    · exact hn.no (by decide)
  | Take hv ha hn =>
    simp only [wordsR, List.mem_cons, List.not_mem_nil, or_false] at hw
    rcases hw with rfl | rfl | rfl | rfl | rfl | rfl
    · decide
    · exact hv.no (by decide)
    · decide
    · exact ha.no
    · decide
    · exact hn.no (by decide)
  | Need ht =>
    rcases List.mem_cons.mp hw with rfl | hw
    · decide
    · exact t _ w hw
theorem words_split {r : RowT} (h : RowOk r) : splitS (saidR r) [32] = wordsR r := by
  rw [said_join]
  refine split_join (by decide) ?_ (words_freeR h)
  cases r <;> simp [wordsR]

theorem binds_eq (r : RowT) : r.M_binds = .ok (bindsR r) := by cases r <;> rfl
theorem asked_eq (r : RowT) : r.M_asked = .ok (askedR r) := by cases r <;> rfl
theorem said_eq {r : RowT} (h : RowOk r) : r.M_said = .ok (saidR r) := by
  cases h with
  | Let hn ht =>
    have := hn.few
    have := textL_len ht
    show saidLet _ = _
    unfold saidLet c_Let_said
    simp only [showF_eq ht, chk_true, isOk_ok, isOk_err, get_okE, bnd_eq, bndO_okE, bndO_errE, bind_goE, bind_retE, up_retE, out_retE, out_goE, bind_iteE, up_iteE, out_iteE, try_okE, true_and, and_true, and_self, forall_const, implies_true]
    rw [chk_pos ⟨by simp only [List.length_append, List.length_cons, List.length_nil, LMax_eq]; omega, by simp only [List.length_append, List.length_cons, List.length_nil, LMax_eq]; omega, by simp only [List.length_append, List.length_cons, List.length_nil, LMax_eq]; omega⟩]
    simp [saidR, chk_true, isOk_ok, isOk_err, get_okE, bnd_eq, bndO_okE, bndO_errE, bind_goE, bind_retE, up_retE, out_retE, out_goE, bind_iteE, up_iteE, out_iteE, try_okE, true_and, and_true, and_self, forall_const, implies_true]
  | Deed hn ht _ =>
    have := hn.few
    have := textL_len ht
    show saidDeed _ = _
    unfold saidDeed c_Deed_said
    simp only [showF_eq ht, chk_true, isOk_ok, isOk_err, get_okE, bnd_eq, bndO_okE, bndO_errE, bind_goE, bind_retE, up_retE, out_retE, out_goE, bind_iteE, up_iteE, out_iteE, try_okE, true_and, and_true, and_self, forall_const, implies_true]
    rw [chk_pos ⟨by simp only [List.length_append, List.length_cons, List.length_nil, LMax_eq]; omega, by simp only [List.length_append, List.length_cons, List.length_nil, LMax_eq]; omega, by simp only [List.length_append, List.length_cons, List.length_nil, LMax_eq]; omega⟩]
    simp [saidR, chk_true, isOk_ok, isOk_err, get_okE, bnd_eq, bndO_okE, bndO_errE, bind_goE, bind_retE, up_retE, out_retE, out_goE, bind_iteE, up_iteE, out_iteE, try_okE, true_and, and_true, and_self, forall_const, implies_true]
  | Draw ha hn =>
    have := hn.few
    have := ha.len
    show saidDraw _ = _
    unfold saidDraw c_Draw_said
    rw [chk_pos ⟨by simp only [List.length_append, List.length_cons, List.length_nil, LMax_eq]; omega, by simp only [List.length_append, List.length_cons, List.length_nil, LMax_eq]; omega, by simp only [List.length_append, List.length_cons, List.length_nil, LMax_eq]; omega⟩]
    simp [saidR, chk_true, isOk_ok, isOk_err, get_okE, bnd_eq, bndO_okE, bndO_errE, bind_goE, bind_retE, up_retE, out_retE, out_goE, bind_iteE, up_iteE, out_iteE, try_okE, true_and, and_true, and_self, forall_const, implies_true]
  | Late ha hn =>
    have := hn.few
    have := ha.len
    show saidLate _ = _
    unfold saidLate c_Late_said
    rw [chk_pos ⟨by simp only [List.length_append, List.length_cons, List.length_nil, LMax_eq]; omega, by simp only [List.length_append, List.length_cons, List.length_nil, LMax_eq]; omega, by simp only [List.length_append, List.length_cons, List.length_nil, LMax_eq]; omega⟩]
    simp [saidR, chk_true, isOk_ok, isOk_err, get_okE, bnd_eq, bndO_okE, bndO_errE, bind_goE, bind_retE, up_retE, out_retE, out_goE, bind_iteE, up_iteE, out_iteE, try_okE, true_and, and_true, and_self, forall_const, implies_true]
  | Take hw ha hn =>
    have := hn.few
    have := hw.few
    have := ha.len
    show saidTake _ = _
    unfold saidTake c_Take_said
    rw [chk_pos ⟨by simp only [List.length_append, List.length_cons, List.length_nil, LMax_eq]; omega, by simp only [List.length_append, List.length_cons, List.length_nil, LMax_eq]; omega, by simp only [List.length_append, List.length_cons, List.length_nil, LMax_eq]; omega, by simp only [List.length_append, List.length_cons, List.length_nil, LMax_eq]; omega, by simp only [List.length_append, List.length_cons, List.length_nil, LMax_eq]; omega⟩]
    simp [saidR, chk_true, isOk_ok, isOk_err, get_okE, bnd_eq, bndO_okE, bndO_errE, bind_goE, bind_retE, up_retE, out_retE, out_goE, bind_iteE, up_iteE, out_iteE, try_okE, true_and, and_true, and_self, forall_const, implies_true]
  | Need ht =>
    have := textL_len ht
    show saidNeed _ = _
    unfold saidNeed c_Need_said
    simp only [showF_eq ht, chk_true, isOk_ok, isOk_err, get_okE, bnd_eq, bndO_okE, bndO_errE, bind_goE, bind_retE, up_retE, out_retE, out_goE, bind_iteE, up_iteE, out_iteE, try_okE, true_and, and_true, and_self, forall_const, implies_true]
    rw [chk_pos (by simp only [List.length_append, List.length_cons, List.length_nil, LMax_eq]; omega)]
    simp [saidR, chk_true, isOk_ok, isOk_err, get_okE, bnd_eq, bndO_okE, bndO_errE, bind_goE, bind_retE, up_retE, out_retE, out_goE, bind_iteE, up_iteE, out_iteE, try_okE, true_and, and_true, and_self, forall_const, implies_true]

/-! a row's text read -/
def heldR (ws : List (List Nat)) : Option RowT :=
  if (decide ((ws.length : Int) = 4) && decide (ix ws 2 [] = AS) && addrOk (ix ws 1 []) && nameOk (ix ws 3 [])) = true then
    some (if decide (ix ws 0 [] = DRAW) = true then .Draw (ix ws 1 []) (ix ws 3 []) else .Late (ix ws 1 []) (ix ws 3 []))
  else none
theorem heldF_eq (ws : List (List Nat)) : heldF ws = .ok (heldR ws) := by
  unfold heldF c_held_row heldR
  simp only [isAddressF_eq, isNameF_eq, chk_true, isOk_ok, isOk_err, get_okE, bnd_eq, bndO_okE, bndO_errE, bind_goE, bind_retE, up_retE, out_retE, out_goE, bind_iteE, up_iteE, out_iteE, try_okE, true_and, and_true, and_self, forall_const, implies_true]
  by_cases hl : (ws.length : Int) = 4
  · rw [chk_pos (fun _ => ⟨by omega, fun _ => ⟨by omega, fun _ => by omega⟩⟩), chk_pos (by omega), chk_pos (by omega), chk_pos (by omega), decide_eq_true hl]
    cases decide (ix ws 2 [] = AS) <;> cases addrOk (ix ws 1 []) <;> cases nameOk (ix ws 3 []) <;> cases decide (ix ws 0 [] = DRAW) <;> rfl
  · rw [decide_eq_false hl, chk_pos fun h => absurd h (by decide)]
    rfl
def takeR (ws : List (List Nat)) : Option RowT :=
  if (decide ((ws.length : Int) = 6) && decide (ix ws 2 [] = FROM) && decide (ix ws 4 [] = AS) && nameOk (ix ws 1 []) && addrOk (ix ws 3 []) && nameOk (ix ws 5 [])) = true then some (.Take (ix ws 1 []) (ix ws 3 []) (ix ws 5 []))
  else none
theorem takeF_eq (ws : List (List Nat)) : takeF ws = .ok (takeR ws) := by
  unfold takeF c_take_row takeR
  simp only [isAddressF_eq, isNameF_eq, chk_true, isOk_ok, isOk_err, get_okE, bnd_eq, bndO_okE, bndO_errE, bind_goE, bind_retE, up_retE, out_retE, out_goE, bind_iteE, up_iteE, out_iteE, try_okE, true_and, and_true, and_self, forall_const, implies_true]
  by_cases hl : (ws.length : Int) = 6
  · rw [chk_pos (fun _ => ⟨by omega, fun _ => by omega⟩), chk_pos ⟨by omega, fun _ => ⟨by omega, fun _ => by omega⟩⟩, chk_pos ⟨by omega, by omega, by omega⟩, decide_eq_true hl]
    cases decide (ix ws 2 [] = FROM) <;> cases decide (ix ws 4 [] = AS) <;> cases nameOk (ix ws 1 []) <;> cases addrOk (ix ws 3 []) <;> cases nameOk (ix ws 5 []) <;> rfl
  · rw [decide_eq_false hl, chk_pos fun h => absurd h (by decide)]
    rfl
def WsOk (ws : List (List Nat)) : Prop := (ws.map (·.length)).sum + ws.length ≤ LMax
theorem WsOk.split {s : List Nat} (h : s.length < LMax) : WsOk (splitS s [32]) := by
  unfold WsOk
  rw [split_sum (by decide)]
  omega
def toldR (ws : List (List Nat)) : Out (Option RowT) :=
  if (decide ((ws.length : Int) < 4) || !decide (ix ws 2 [] = BE) || !nameOk (ix ws 1 [])) = true then .ok none
  else (readL (joinS [32] (cutL ws (some 3) none))).bind fun ts => if decide (ix ws 0 [] = LET) = true then .ok (some (.Let (ix ws 1 []) ts)) else if hasCallL ts = true then .ok none else .ok (some (.Deed (ix ws 1 []) ts))
theorem toldF_eq {ws : List (List Nat)} (h : WsOk ws) : toldF ws = toldR ws := by
  unfold toldF c_told_row toldR
  simp only [isNameF_eq, readF_eq, hasCallF_eq, chk_true, isOk_ok, isOk_err, get_okE, bnd_eq, bndO_okE, bndO_errE, bind_goE, bind_retE, up_retE, out_retE, out_goE, bind_iteE, up_iteE, out_iteE, try_okE, true_and, and_true, and_self, forall_const, implies_true]
  by_cases hl : (ws.length : Int) < 4
  · rw [decide_eq_true hl, chk_pos fun h => absurd h (by decide)]
    rfl
  · rw [chk_pos (fun _ => ⟨by omega, fun _ => by omega⟩), chk_pos (cut_jok h _ _), decide_eq_false hl]
    cases decide (ix ws 2 [] = BE) with
    | false => rfl
    | true =>
      cases nameOk (ix ws 1 []) with
      | false => rfl
      | true =>
        simp only [Bool.not_true, Bool.or_self, Bool.false_eq_true, if_false]
        cases readL (joinS [32] (cutL ws (some 3) none)) with
        | err e => rfl
        | stk => rfl
        | ok ts =>
          rw [bndO_okE, chk_pos (by omega), chk_pos (by omega)]
          show _ = if decide (ix ws 0 [] = LET) = true then Out.ok (some (RowT.Let (ix ws 1 []) ts)) else if hasCallL ts = true then .ok none else .ok (some (RowT.Deed (ix ws 1 []) ts))
          cases decide (ix ws 0 [] = LET) <;> cases hasCallL ts <;> first | rfl | (rw [if_neg Bool.false_ne_true, if_neg Bool.false_ne_true, chk_pos (by omega)]; rfl)
def rowOfR (ws : List (List Nat)) : Out (Option RowT) :=
  if decide (ix ws 0 [] ∈ [DRAW, LATE]) = true then .ok (heldR ws)
  else if decide (ix ws 0 [] = TAKE) = true then .ok (takeR ws)
  else if decide (ix ws 0 [] ∈ [LET, DEED]) = true then toldR ws
  else if decide (ix ws 0 [] = NEED) = true then (readL (joinS [32] (cutL ws (some 1) none))).bind fun ts => .ok (some (.Need ts))
  else .ok none
theorem rowOfF_eq {ws : List (List Nat)} (hp : 0 < ws.length) (h : WsOk ws) : rowOfF ws = rowOfR ws := by
  have hi : -(ws.length : Int) ≤ 0 ∧ (0 : Int) < (ws.length : Int) := ⟨by omega, by omega⟩
  unfold rowOfF c_row_of rowOfR
  simp only [heldF_eq, takeF_eq, toldF_eq h, readF_eq, chk_true, isOk_ok, isOk_err, get_okE, bnd_eq, bndO_okE, bndO_errE, bind_goE, bind_retE, up_retE, out_retE, out_goE, bind_iteE, up_iteE, out_iteE, try_okE, true_and, and_true, and_self, forall_const, implies_true]
  rw [chk_pos hi]
  simp only [chk_pos hi, chk_pos (cut_jok h _ _)]
  cases decide (ix ws 0 [] ∈ [DRAW, LATE]) with
  | true => rfl
  | false =>
    cases decide (ix ws 0 [] = TAKE) with
    | true => rfl
    | false =>
      cases decide (ix ws 0 [] ∈ [LET, DEED]) with
      | true => rfl
      | false =>
        cases decide (ix ws 0 [] = NEED) with
        | true =>
          simp only [if_true, Bool.false_eq_true, if_false]
          cases readL (joinS [32] (cutL ws (some 1) none)) <;> rfl
        | false => rfl
/-- what is raised beneath is NoExpr alone -/
def Ends0 {α : Type} (o : Out α) : Prop := match o with
  | .ok _ => True
  | .err e => e = noExpr
  | .stk => False
theorem Ends0.bind {α β : Type} {o : Out α} {f : α → Out β} (h : Ends0 o) (hf : ∀ v, Ends0 (f v)) : Ends0 (o.bind f) := by
  cases o with
  | ok v => exact hf v
  | err e => exact h
  | stk => exact h
theorem ends_sign (s : List Nat) : Ends0 (signL s) := by
  unfold signL
  cases decide (s = [43]) <;> cases decide (s = [45]) <;> first | trivial | rfl
theorem ends_thing (s : List Nat) : Ends0 (thingL s) := by
  unfold thingL
  cases writtenL s <;> cases decide (cutL s (some (-2)) none = [40, 41]) <;> cases allOk (splitS (cutL s none (some (-2))) [46]) 4 <;> cases allOk (splitS s [46]) 4 <;> first | trivial | rfl
theorem ends_fold (ws : List (List Nat)) : ∀ (ks : List Int) (acc : List Tm), Ends0 (foldO (readStep ws) acc ks)
  | [], _ => trivial
  | k :: ks, acc => by
    refine Ends0.bind (o := readStep ws acc k) ?_ fun v => ends_fold ws ks v
    unfold readStep
    refine Ends0.bind ?_ fun v => Ends0.bind (ends_thing _) fun _ => trivial
    cases decide ((0 : Int) < k) with
    | true => exact ends_sign _
    | false => trivial
theorem ends_read (s : List Nat) : Ends0 (readL s) := by
  unfold readL
  cases (decide (((splitS s [32]).length : Int) % 2 = 0) || decide ((11 : Int) < ((splitS s [32]).length : Int))) with
  | true => rfl
  | false => exact ends_fold _ _ _
theorem ends_row (ws : List (List Nat)) : Ends0 (rowOfR ws) := by
  unfold rowOfR
  cases decide (ix ws 0 [] ∈ [DRAW, LATE]) with
  | true => trivial
  | false =>
    cases decide (ix ws 0 [] = TAKE) with
    | true => trivial
    | false =>
      cases decide (ix ws 0 [] ∈ [LET, DEED]) with
      | true =>
        show Ends0 (toldR ws)
        unfold toldR
        cases (decide ((ws.length : Int) < 4) || !decide (ix ws 2 [] = BE) || !nameOk (ix ws 1 [])) with
        | true => trivial
        | false => exact Ends0.bind (ends_read _) fun ts => by cases decide (ix ws 0 [] = LET) <;> cases hasCallL ts <;> trivial
      | false =>
        cases decide (ix ws 0 [] = NEED) with
        | true => exact Ends0.bind (ends_read _) fun ts => trivial
        | false => trivial
def noText (k : Int) : Exn := ⟨"NoText", xNoText k⟩
/-- the row that a text writes, if it writes one -/
def rowR (s : List Nat) : Option RowT := match rowOfR (splitS s [32]) with
  | .ok r => r
  | _ => none
def readRowR (s : List Nat) : Out RowT := match rowR s with
  | some r => .ok r
  | none => .err (noText 0)
theorem readRowF_eq {s : List Nat} (h : s.length < LMax) : readRowF s = readRowR s := by
  have he := ends_row (splitS s [32])
  unfold readRowF c_read_row readRowR rowR
  rw [rowOfF_eq (splitS_pos (by decide) s) (.split h)]
  revert he
  cases rowOfR (splitS s [32]) with
  | ok r => cases r with
    | none => exact fun _ => rfl
    | some r =>
      intro _
      simp only [chk_true, isOk_ok, isOk_err, get_okE, bnd_eq, bndO_okE, bndO_errE, bind_goE, bind_retE, up_retE, out_retE, out_goE, bind_iteE, up_iteE, out_iteE, try_okE, true_and, and_true, and_self, forall_const, implies_true, if_true, Option.isNone_some, Option.isSome_some, Bool.false_eq_true, if_false]
      rfl
  | err e =>
    intro he
    have : e = noExpr := he
    subst this
    rfl
  | stk => exact fun he => (show False from he).elim
/-- a good row's text is read to it -/
theorem read_textN {ts : List Tm} (h : TermsOk ts) : readL (joinS [32] (splitS (textL ts) [32])) = .ok ts := by
  rw [join_split (by decide)]
  exact read_text h
theorem len_words {r : RowT} : 0 < (wordsR r).length := by cases r <;> simp [wordsR]
theorem row_of_words {r : RowT} (h : RowOk r) : rowOfR (wordsR r) = .ok (some r) := by
  cases h with
  | @Let n ts hn ht =>
    have p := splitS_pos (c := 32) (by decide) (textL ts)
    have e2 : cutL (LET :: n :: BE :: splitS (textL ts) [32]) (some ((3 : Nat) : Int)) none = splitS (textL ts) [32] := cut_from _ 3 (by simp only [List.length_cons]; omega)
    have e2' : cutL (LET :: n :: BE :: splitS (textL ts) [32]) (some 3) none = splitS (textL ts) [32] := e2
    show rowOfR (LET :: n :: BE :: splitS (textL ts) [32]) = _
    unfold rowOfR
    rw [ix_zero, if_neg (by decide), if_neg (by decide), if_pos (by decide)]
    unfold toldR
    have i1 : ix (LET :: n :: BE :: splitS (textL ts) [32]) 1 [] = n := ix_nat _ 1 _
    have i2 : ix (LET :: n :: BE :: splitS (textL ts) [32]) 2 [] = BE := ix_nat _ 2 _
    rw [ix_zero, decide_eq_false (by simp only [List.length_cons]; omega), i1, i2, hn.ok, e2', read_textN ht]
    rfl
  | @Deed n ts hn ht hc =>
    have p := splitS_pos (c := 32) (by decide) (textL ts)
    have e2 : cutL (DEED :: n :: BE :: splitS (textL ts) [32]) (some ((3 : Nat) : Int)) none = splitS (textL ts) [32] := cut_from _ 3 (by simp only [List.length_cons]; omega)
    have e2' : cutL (DEED :: n :: BE :: splitS (textL ts) [32]) (some 3) none = splitS (textL ts) [32] := e2
    show rowOfR (DEED :: n :: BE :: splitS (textL ts) [32]) = _
    unfold rowOfR
    rw [ix_zero, if_neg (by decide), if_neg (by decide), if_pos (by decide)]
    unfold toldR
    have i1 : ix (DEED :: n :: BE :: splitS (textL ts) [32]) 1 [] = n := ix_nat _ 1 _
    have i2 : ix (DEED :: n :: BE :: splitS (textL ts) [32]) 2 [] = BE := ix_nat _ 2 _
    rw [ix_zero, decide_eq_false (by simp only [List.length_cons]; omega), i1, i2, hn.ok, e2', read_textN ht]
    show (if hasCallL ts = true then Out.ok none else .ok (some (RowT.Deed n ts))) = _
    rw [hc]
    rfl
  | @Draw a n ha hn =>
    show Out.ok (heldR [DRAW, a, AS, n]) = _
    have e1 : ix ([DRAW, a, AS, n] : List (List Nat)) 1 [] = a := ix_nat _ 1 _
    have e3 : ix ([DRAW, a, AS, n] : List (List Nat)) 3 [] = n := ix_nat _ 3 _
    unfold heldR
    rw [e1, e3, ha.ok, hn.ok]
    rfl
  | @Late a n ha hn =>
    show Out.ok (heldR [LATE, a, AS, n]) = _
    have e1 : ix ([LATE, a, AS, n] : List (List Nat)) 1 [] = a := ix_nat _ 1 _
    have e3 : ix ([LATE, a, AS, n] : List (List Nat)) 3 [] = n := ix_nat _ 3 _
    unfold heldR
    rw [e1, e3, ha.ok, hn.ok]
    rfl
  | @Take w a n hw ha hn =>
    show Out.ok (takeR [TAKE, w, FROM, a, AS, n]) = _
    have e1 : ix ([TAKE, w, FROM, a, AS, n] : List (List Nat)) 1 [] = w := ix_nat _ 1 _
    have e3 : ix ([TAKE, w, FROM, a, AS, n] : List (List Nat)) 3 [] = a := ix_nat _ 3 _
    have e5 : ix ([TAKE, w, FROM, a, AS, n] : List (List Nat)) 5 [] = n := ix_nat _ 5 _
    unfold takeR
    rw [e1, e3, e5, ha.ok, hw.ok, hn.ok]
    rfl
  | @Need ts ht =>
    show rowOfR (NEED :: splitS (textL ts) [32]) = _
    unfold rowOfR
    rw [ix_zero, if_neg (by decide), if_neg (by decide), if_neg (by decide), if_pos (by decide), cut_one, read_textN ht]
    rfl
theorem read_said {r : RowT} (h : RowOk r) : readRowR (saidR r) = .ok r := by
  unfold readRowR rowR
  rw [words_split h, row_of_words h]

/-! the law's own rows -/
def recR (a w : List Nat) (ts : List Tm) (r : RowT) : Rw := match r with
  | .Let n us => (LET, n, a, w, us)
  | .Deed n us => (DEED, n, a, w, us)
  | .Draw b n => (DRAW, n, b, w, ts)
  | .Late b n => (LATE, n, b, w, ts)
  | .Take v b n => (TAKE, n, b, v, ts)
  | .Need us => (NEED, [], a, w, us)
def pathed (ts : List Tm) : List Tm := ts.map fun t => (t.1, ix ([PATH, t.2.1] : List (List Nat)) (if decide (t.2.1 = NUM) = true then 1 else 0 : Int) [], t.2.2)
theorem pathed_ok {ts : List Tm} (h : TermsOk ts) : TermsOk (pathed ts) ∧ hasCallL (pathed ts) = false := by
  have one : ∀ t, TermOk t → TermOk (t.1, ix ([PATH, t.2.1] : List (List Nat)) (if decide (t.2.1 = NUM) = true then 1 else 0 : Int) [], t.2.2) ∧ ix ([PATH, t.2.1] : List (List Nat)) (if decide (t.2.1 = NUM) = true then 1 else 0 : Int) [] ≠ CALL := fun t ht => by
    rcases ht.th with ⟨h1, n, h2⟩ | ⟨h1, n, h2⟩
    · rw [decide_eq_true h1]
      exact ⟨⟨ht.sg, .inl ⟨h1, n, h2⟩⟩, by show t.2.1 ≠ CALL; rw [h1]; decide⟩
    · have e : decide (t.2.1 = NUM) = false := decide_eq_false (by rcases h1 with h1 | h1 <;> rw [h1] <;> decide)
      rw [e]
      exact ⟨⟨ht.sg, .inr ⟨.inl rfl, n, h2⟩⟩, by show PATH ≠ CALL; decide⟩
  refine ⟨⟨by unfold pathed; rw [List.length_map]; exact h.pos, by unfold pathed; rw [List.length_map]; exact h.few, fun t ht => ?_, fun t ht => ?_⟩, ?_⟩
  · obtain ⟨u, hu, rfl⟩ := List.mem_map.mp ht
    exact (one u (h.all u hu)).1
  · unfold pathed at ht
    rw [List.getElem?_map] at ht
    cases e : ts[0]? with
    | none =>
      rw [e] at ht
      cases ht
    | some u =>
      rw [e] at ht
      cases ht
      exact h.first u e
  · unfold hasCallL
    rw [List.any_eq_false]
    intro t ht
    obtain ⟨u, hu, rfl⟩ := List.mem_map.mp ht
    have := (one u (h.all u hu)).2
    simpa using this
/-- what the law draws is a good row told as a tuple -/
theorem rowF_ok (c : Int) {n : List Nat} (hn : Word1 n) : ∃ (r : RowT) (a w : List Nat) (ts : List Tm), rowF c n = .ok (recR a w ts r) ∧ RowOk r ∧ Word1 w ∧ Adr a ∧ TermsOk ts := by
  have q := pickL_lt c 10 (m := 6) (by decide) (by decide) (by decide)
  have ht := termsL_ok c
  have hp := pathed_ok ht
  have ha := (addressF_ok (subL c 31)).2
  have ha' : Adr (addressL (subL c 31)) := ha
  have hw := (labelF_ok (subL c 35)).2
  unfold rowF c_row
  simp only [pickF_eq c 10 (m := 6) (by decide) (by decide) (by decide), termsF_eq, subF_eq c (k := 31) (by decide) (by decide), subF_eq c (k := 35) (by decide) (by decide), (addressF_ok _).1, (labelF_ok _).1, chk_true, isOk_ok, isOk_err, get_okE, bnd_eq, bndO_okE, bndO_errE, bind_goE, bind_retE, up_retE, out_retE, out_goE, bind_iteE, up_iteE, out_iteE, try_okE, true_and, and_true, and_self, forall_const, implies_true]
  rw [chk_pos (by show -(6 : Int) ≤ _ ∧ _ < (6 : Int); omega)]
  have hf := ht.few
  have hk : pickL c 10 6 = 0 ∨ pickL c 10 6 = 1 ∨ pickL c 10 6 = 2 ∨ pickL c 10 6 = 3 ∨ pickL c 10 6 = 4 ∨ pickL c 10 6 = 5 := by omega
  rcases hk with k | k | k | k | k | k <;> rw [k]
  · exact ⟨.Let n (termsL c), _, _, termsL c, rfl, .Let hn ht, hw, ha', ht⟩
  · rw [show decide (ix ([LET, DEED, DRAW, LATE, TAKE, NEED] : List (List Nat)) 1 [] = [100, 101, 101, 100]) = true from rfl, if_pos rfl, chk_pos ⟨fun t _ => if_two, by rw [sizeLine_eq]; omega⟩]
    exact ⟨.Deed n (pathed (termsL c)), _, _, termsL c, rfl, .Deed hn hp.1 hp.2, hw, ha', ht⟩
  · exact ⟨.Draw _ n, addressL (subL c 31), _, _, rfl, .Draw ha' hn, hw, ha', ht⟩
  · exact ⟨.Late _ n, addressL (subL c 31), _, _, rfl, .Late ha' hn, hw, ha', ht⟩
  · exact ⟨.Take _ _ n, addressL (subL c 31), labelL (subL c 35), _, rfl, .Take hw ha' hn, hw, ha', ht⟩
  · exact ⟨.Need _, _, _, termsL c, rfl, .Need ht, hw, ha', ht⟩

theorem saidF_eq {a w : List Nat} {ts : List Tm} {r : RowT} (h : RowOk r) : saidF (recR a w ts r) = .ok (saidR r) := by
  unfold saidF c_lsaid
  cases h with
  | @Let n us hn ht =>
    have := hn.few
    have := textL_len ht
    simp only [recR, textF_eq ht, chk_true, isOk_ok, isOk_err, get_okE, bnd_eq, bndO_okE, bndO_errE, bind_goE, bind_retE, up_retE, out_retE, out_goE, bind_iteE, up_iteE, out_iteE, try_okE, true_and, and_true, and_self, forall_const, implies_true]
    rw [if_neg (by exact Bool.false_ne_true), if_neg (by exact Bool.false_ne_true), if_neg (by exact Bool.false_ne_true), chk_pos ⟨by simp only [List.length_append, List.length_cons, List.length_nil, LMax_eq]; omega, by simp only [List.length_append, List.length_cons, List.length_nil, LMax_eq]; omega, by simp only [List.length_append, List.length_cons, List.length_nil, LMax_eq]; omega, by simp only [List.length_append, List.length_cons, List.length_nil, LMax_eq]; omega⟩]
    rfl
  | @Deed n us hn ht _ =>
    have := hn.few
    have := textL_len ht
    simp only [recR, textF_eq ht, chk_true, isOk_ok, isOk_err, get_okE, bnd_eq, bndO_okE, bndO_errE, bind_goE, bind_retE, up_retE, out_retE, out_goE, bind_iteE, up_iteE, out_iteE, try_okE, true_and, and_true, and_self, forall_const, implies_true]
    rw [if_neg (by exact Bool.false_ne_true), if_neg (by exact Bool.false_ne_true), if_neg (by exact Bool.false_ne_true), chk_pos ⟨by simp only [List.length_append, List.length_cons, List.length_nil, LMax_eq]; omega, by simp only [List.length_append, List.length_cons, List.length_nil, LMax_eq]; omega, by simp only [List.length_append, List.length_cons, List.length_nil, LMax_eq]; omega, by simp only [List.length_append, List.length_cons, List.length_nil, LMax_eq]; omega⟩]
    rfl
  | @Draw b n ha hn =>
    have := hn.few
    have := ha.len
    simp only [recR, chk_true, isOk_ok, isOk_err, get_okE, bnd_eq, bndO_okE, bndO_errE, bind_goE, bind_retE, up_retE, out_retE, out_goE, bind_iteE, up_iteE, out_iteE, try_okE, true_and, and_true, and_self, forall_const, implies_true]
    rw [if_pos (by exact rfl), chk_pos ⟨by simp only [List.length_append, List.length_cons, List.length_nil, LMax_eq]; omega, by simp only [List.length_append, List.length_cons, List.length_nil, LMax_eq]; omega, by simp only [List.length_append, List.length_cons, List.length_nil, LMax_eq]; omega, by simp only [List.length_append, List.length_cons, List.length_nil, LMax_eq]; omega⟩]
    rfl
  | @Late b n ha hn =>
    have := hn.few
    have := ha.len
    simp only [recR, chk_true, isOk_ok, isOk_err, get_okE, bnd_eq, bndO_okE, bndO_errE, bind_goE, bind_retE, up_retE, out_retE, out_goE, bind_iteE, up_iteE, out_iteE, try_okE, true_and, and_true, and_self, forall_const, implies_true]
    rw [if_pos (by exact rfl), chk_pos ⟨by simp only [List.length_append, List.length_cons, List.length_nil, LMax_eq]; omega, by simp only [List.length_append, List.length_cons, List.length_nil, LMax_eq]; omega, by simp only [List.length_append, List.length_cons, List.length_nil, LMax_eq]; omega, by simp only [List.length_append, List.length_cons, List.length_nil, LMax_eq]; omega⟩]
    rfl
  | @Take v b n hw ha hn =>
    have := hn.few
    have := hw.few
    have := ha.len
    simp only [recR, chk_true, isOk_ok, isOk_err, get_okE, bnd_eq, bndO_okE, bndO_errE, bind_goE, bind_retE, up_retE, out_retE, out_goE, bind_iteE, up_iteE, out_iteE, try_okE, true_and, and_true, and_self, forall_const, implies_true]
    rw [if_neg (by exact Bool.false_ne_true), if_pos (by exact rfl), chk_pos ⟨by simp only [List.length_append, List.length_cons, List.length_nil, LMax_eq]; omega, by simp only [List.length_append, List.length_cons, List.length_nil, LMax_eq]; omega, by simp only [List.length_append, List.length_cons, List.length_nil, LMax_eq]; omega, by simp only [List.length_append, List.length_cons, List.length_nil, LMax_eq]; omega, by simp only [List.length_append, List.length_cons, List.length_nil, LMax_eq]; omega⟩]
    rfl
  | @Need us ht =>
    have := textL_len ht
    simp only [recR, textF_eq ht, chk_true, isOk_ok, isOk_err, get_okE, bnd_eq, bndO_okE, bndO_errE, bind_goE, bind_retE, up_retE, out_retE, out_goE, bind_iteE, up_iteE, out_iteE, try_okE, true_and, and_true, and_self, forall_const, implies_true]
    rw [if_neg (by exact Bool.false_ne_true), if_neg (by exact Bool.false_ne_true), if_pos (by exact rfl), chk_pos (by simp only [List.length_append, List.length_cons, List.length_nil, LMax_eq]; omega)]
    rfl
theorem saysF_eq {a w : List Nat} {ts : List Tm} {r : RowT} (h : RowOk r) : saysF r (recR a w ts r) = .ok true := by
  unfold saysF c_says
  simp only [binds_eq, asked_eq, said_eq h, saidF_eq h, chk_true, isOk_ok, isOk_err, get_okE, bnd_eq, bndO_okE, bndO_errE, bind_goE, bind_retE, up_retE, out_retE, out_goE, bind_iteE, up_iteE, out_iteE, try_okE, true_and, and_true, and_self, forall_const, implies_true]
  have e1 : bindsR r = (recR a w ts r).2.1 := by cases h <;> rfl
  have e2 : askedR r = (List.replicate ((if decide ((recR a w ts r).1 ∈ ([DRAW, LATE, TAKE] : List (List Nat))) = true then 1 else 0 : Int)).toNat ([(recR a w ts r).2.2.1] : List (List Nat))).flatten := by cases h <;> rfl
  have e3 : (askedR r).length ≤ 1 := by cases h <;> simp [askedR]
  rw [chk_pos ⟨by split <;> decide, by rw [sizeLine_eq]; split <;> (simp)⟩]
  rw [← e2, ← e1, decide_eq_true rfl, decide_eq_true rfl, chk_pos (by rw [sizeLine_eq]; omega)]
  simp [chk_true, isOk_ok, isOk_err, get_okE, bnd_eq, bndO_okE, bndO_errE, bind_goE, bind_retE, up_retE, out_retE, out_goE, bind_iteE, up_iteE, out_iteE, try_okE, true_and, and_true, and_self, forall_const, implies_true]
theorem isF_eq {a w : List Nat} {ts : List Tm} {r : RowT} (h : RowOk r) : isF r (recR a w ts r) = .ok true := by
  have hs := saysF_eq (a := a) (w := w) (ts := ts) h
  unfold isF c_is
  simp only [hs, chk_true, isOk_ok, isOk_err, get_okE, bnd_eq, bndO_okE, bndO_errE, bind_goE, bind_retE, up_retE, out_retE, out_goE, bind_iteE, up_iteE, out_iteE, try_okE, true_and, and_true, and_self, forall_const, implies_true]
  have l1 : ([r.is_Let, r.is_Deed, r.is_Draw, r.is_Late] : List Bool).length + ([r.is_Take, r.is_Need] : List Bool).length ≤ sizeLine := by
    rw [sizeLine_eq]
    show 4 + 2 ≤ _
    decide
  rw [chk_pos l1, chk_pos (by rw [sizeLine_eq]; decide)]
  cases h with
  | @Let n us hn ht =>
    rw [if_neg (by exact Bool.false_ne_true), chk_pos (fun _ => ⟨rfl, fun _ => rfl⟩), if_neg (fun h => by simp [recR, RowT.R_name] at h), chk_pos (fun h => absurd h (by exact Bool.false_ne_true)), if_neg (by exact Bool.false_ne_true), if_neg (by exact Bool.false_ne_true), chk_pos (by exact rfl)]
    exact termsAre_refl ht.all ht.few
  | @Deed n us hn ht _ =>
    rw [if_neg (by exact Bool.false_ne_true), chk_pos (fun _ => ⟨rfl, fun _ => rfl⟩), if_neg (fun h => by simp [recR, RowT.R_name] at h), chk_pos (fun h => absurd h (by exact Bool.false_ne_true)), if_neg (by exact Bool.false_ne_true), if_neg (by exact Bool.false_ne_true), chk_pos (by exact rfl)]
    exact termsAre_refl ht.all ht.few
  | @Draw b n ha hn =>
    rw [if_neg (by exact Bool.false_ne_true), chk_pos (fun _ => ⟨rfl, fun _ => rfl⟩), if_neg (fun h => by simp [recR, RowT.R_name] at h), chk_pos (fun h => absurd h (by exact Bool.false_ne_true)), if_neg (by exact Bool.false_ne_true), if_pos (by exact rfl), chk_pos (by exact rfl)]
    simp [recR, RowT.R_address, chk_true, isOk_ok, isOk_err, get_okE, bnd_eq, bndO_okE, bndO_errE, bind_goE, bind_retE, up_retE, out_retE, out_goE, bind_iteE, up_iteE, out_iteE, try_okE, true_and, and_true, and_self, forall_const, implies_true]
  | @Late b n ha hn =>
    rw [if_neg (by exact Bool.false_ne_true), chk_pos (fun _ => ⟨rfl, fun _ => rfl⟩), if_neg (fun h => by simp [recR, RowT.R_name] at h), chk_pos (fun h => absurd h (by exact Bool.false_ne_true)), if_neg (by exact Bool.false_ne_true), if_pos (by exact rfl), chk_pos (by exact rfl)]
    simp [recR, RowT.R_address, chk_true, isOk_ok, isOk_err, get_okE, bnd_eq, bndO_okE, bndO_errE, bind_goE, bind_retE, up_retE, out_retE, out_goE, bind_iteE, up_iteE, out_iteE, try_okE, true_and, and_true, and_self, forall_const, implies_true]
  | @Take v b n hw ha hn =>
    rw [if_neg (by exact Bool.false_ne_true), chk_pos (fun _ => ⟨rfl, fun _ => rfl⟩), if_neg (fun h => by simp [recR, RowT.R_name] at h), chk_pos (fun _ => ⟨rfl, fun _ => rfl⟩), if_neg (fun h => by simp [recR, RowT.R_word] at h), if_pos (by exact rfl), chk_pos (by exact rfl)]
    simp [recR, RowT.R_address, chk_true, isOk_ok, isOk_err, get_okE, bnd_eq, bndO_okE, bndO_errE, bind_goE, bind_retE, up_retE, out_retE, out_goE, bind_iteE, up_iteE, out_iteE, try_okE, true_and, and_true, and_self, forall_const, implies_true]
  | @Need us ht =>
    rw [if_neg (by exact Bool.false_ne_true), chk_pos (fun h => absurd h (by exact Bool.false_ne_true)), if_neg (by exact Bool.false_ne_true), chk_pos (fun h => absurd h (by exact Bool.false_ne_true)), if_neg (by exact Bool.false_ne_true), if_neg (by exact Bool.false_ne_true), chk_pos (by exact rfl)]
    exact termsAre_refl ht.all ht.few

theorem law_true (ns : List Int) (hl : ns.length ≤ 63) : lawF ns = .ok true := by
  unfold lawF c_law
  rw [chk_pos (by constructor <;> split <;> split <;> omega)]
  rw [loop_same fun y hy => ?_]
  · rfl
  · have h0 : 0 ≤ y ∧ y < 63 := by
      have := rints_mem hy
      split at this <;> split at this <;> omega
    obtain ⟨r, a, w, ts, e, hr, -⟩ := rowF_ok (cellL ns y) (labelF_ok (subL (cellL ns y) 36)).2
    simp only [cellF_eq ns h0.1, subF_eq (cellL ns y) (k := 36) (by decide) (by decide), (labelF_ok _).1, e, saidF_eq hr, readRowF_eq (show (saidR r).length < LMax by have := saidR_len hr; rw [LMax_eq]; omega), read_said hr, isF_eq hr, chk_true, isOk_ok, isOk_err, get_okE, bnd_eq, bndO_okE, bndO_errE, bind_goE, bind_retE, up_retE, out_retE, out_goE, bind_iteE, up_iteE, out_iteE, try_okE, true_and, and_true, and_self, forall_const, implies_true]
    rfl

theorem all_mk {P : Program} {w : World} {K : PySem.W.Frag} {h : Heap} {mg : Str → Option Value} {fa : Addr} (X : K.In h) (G : h.Ns mainGlobals mg) (hfa : mg "law" = some (.ref fa))
    {f0 : Addr} {od0 an0 : Option Addr} {sl0 : Array (Option Value)} {oc0 kV0 dc0 pm0 cd0 ct0 : Value}
    {C_NoText : Addr}
    {f1 : Addr} {od1 an1 : Option Addr} {sl1 : Array (Option Value)} {oc1 kV1 dc1 pm1 cd1 ct1 : Value}
    {f2 : Addr} {od2 an2 : Option Addr} {sl2 : Array (Option Value)} {oc2 kV2 dc2 pm2 cd2 ct2 : Value}
    {f3 : Addr} {od3 an3 : Option Addr} {sl3 : Array (Option Value)} {oc3 kV3 dc3 pm3 cd3 ct3 : Value}
    {f4 : Addr} {od4 an4 : Option Addr} {sl4 : Array (Option Value)} {oc4 kV4 dc4 pm4 cd4 ct4 : Value}
    {f5 : Addr} {od5 an5 : Option Addr} {sl5 : Array (Option Value)} {oc5 kV5 dc5 pm5 cd5 ct5 : Value}
    {f6 : Addr} {od6 an6 : Option Addr} {sl6 : Array (Option Value)} {oc6 kV6 dc6 pm6 cd6 ct6 : Value}
    {f7 : Addr} {od7 an7 : Option Addr} {sl7 : Array (Option Value)} {oc7 kV7 dc7 pm7 cd7 ct7 : Value}
    {f8 : Addr} {od8 an8 : Option Addr} {sl8 : Array (Option Value)} {oc8 kV8 dc8 pm8 cd8 ct8 : Value}
    {f9 : Addr} {od9 an9 : Option Addr} {sl9 : Array (Option Value)} {oc9 kV9 dc9 pm9 cd9 ct9 : Value}
    {f10 : Addr} {od10 an10 : Option Addr} {sl10 : Array (Option Value)} {oc10 kV10 dc10 pm10 cd10 ct10 : Value}
    {f11 : Addr} {od11 an11 : Option Addr} {sl11 : Array (Option Value)} {oc11 kV11 dc11 pm11 cd11 ct11 : Value}
    {C_Let : Addr}
    {f12 : Addr} {od12 an12 : Option Addr} {sl12 : Array (Option Value)} {oc12 kV12 dc12 pm12 cd12 ct12 : Value}
    {C_Deed : Addr}
    {f13 : Addr} {od13 an13 : Option Addr} {sl13 : Array (Option Value)} {oc13 kV13 dc13 pm13 cd13 ct13 : Value}
    {C_Draw : Addr}
    {f14 : Addr} {od14 an14 : Option Addr} {sl14 : Array (Option Value)} {oc14 kV14 dc14 pm14 cd14 ct14 : Value}
    {C_Late : Addr}
    {f15 : Addr} {od15 an15 : Option Addr} {sl15 : Array (Option Value)} {oc15 kV15 dc15 pm15 cd15 ct15 : Value}
    {C_Take : Addr}
    {f16 : Addr} {od16 an16 : Option Addr} {sl16 : Array (Option Value)} {oc16 kV16 dc16 pm16 cd16 ct16 : Value}
    {C_Need : Addr}
    {f17 : Addr} {od17 an17 : Option Addr} {sl17 : Array (Option Value)} {oc17 kV17 dc17 pm17 cd17 ct17 : Value}
    {f18 : Addr} {od18 an18 : Option Addr} {sl18 : Array (Option Value)} {oc18 kV18 dc18 pm18 cd18 ct18 : Value}
    {f19 : Addr} {od19 an19 : Option Addr} {sl19 : Array (Option Value)} {oc19 kV19 dc19 pm19 cd19 ct19 : Value}
    {f20 : Addr} {od20 an20 : Option Addr} {sl20 : Array (Option Value)} {oc20 kV20 dc20 pm20 cd20 ct20 : Value}
    {f21 : Addr} {od21 an21 : Option Addr} {sl21 : Array (Option Value)} {oc21 kV21 dc21 pm21 cd21 ct21 : Value}
    {f22 : Addr} {od22 an22 : Option Addr} {sl22 : Array (Option Value)} {oc22 kV22 dc22 pm22 cd22 ct22 : Value}
    {f23 : Addr} {od23 an23 : Option Addr} {sl23 : Array (Option Value)} {oc23 kV23 dc23 pm23 cd23 ct23 : Value}
    {f24 : Addr} {od24 an24 : Option Addr} {sl24 : Array (Option Value)} {oc24 kV24 dc24 pm24 cd24 ct24 : Value}
    {f25 : Addr} {od25 an25 : Option Addr} {sl25 : Array (Option Value)} {oc25 kV25 dc25 pm25 cd25 ct25 : Value}
    {f26 : Addr} {od26 an26 : Option Addr} {sl26 : Array (Option Value)} {oc26 kV26 dc26 pm26 cd26 ct26 : Value}
    {f27 : Addr} {od27 an27 : Option Addr} {sl27 : Array (Option Value)} {oc27 kV27 dc27 pm27 cd27 ct27 : Value}
    {f28 : Addr} {od28 an28 : Option Addr} {sl28 : Array (Option Value)} {oc28 kV28 dc28 pm28 cd28 ct28 : Value}
    {f29 : Addr} {od29 an29 : Option Addr} {sl29 : Array (Option Value)} {oc29 kV29 dc29 pm29 cd29 ct29 : Value}
    {f30 : Addr} {od30 an30 : Option Addr} {sl30 : Array (Option Value)} {oc30 kV30 dc30 pm30 cd30 ct30 : Value}
    {f31 : Addr} {od31 an31 : Option Addr} {sl31 : Array (Option Value)} {oc31 kV31 dc31 pm31 cd31 ct31 : Value}
    {f32 : Addr} {od32 an32 : Option Addr} {sl32 : Array (Option Value)} {oc32 kV32 dc32 pm32 cd32 ct32 : Value}
    {f33 : Addr} {od33 an33 : Option Addr} {sl33 : Array (Option Value)} {oc33 kV33 dc33 pm33 cd33 ct33 : Value}
    {f34 : Addr} {od34 an34 : Option Addr} {sl34 : Array (Option Value)} {oc34 kV34 dc34 pm34 cd34 ct34 : Value}
    {f35 : Addr} {od35 an35 : Option Addr} {sl35 : Array (Option Value)} {oc35 kV35 dc35 pm35 cd35 ct35 : Value}
    {f36 : Addr} {od36 an36 : Option Addr} {sl36 : Array (Option Value)} {oc36 kV36 dc36 pm36 cd36 ct36 : Value}
    {f37 : Addr} {od37 an37 : Option Addr} {sl37 : Array (Option Value)} {oc37 kV37 dc37 pm37 cd37 ct37 : Value}
    {f38 : Addr} {od38 an38 : Option Addr} {sl38 : Array (Option Value)} {oc38 kV38 dc38 pm38 cd38 ct38 : Value}
    {f39 : Addr} {od39 an39 : Option Addr} {sl39 : Array (Option Value)} {oc39 kV39 dc39 pm39 cd39 ct39 : Value}
    {f40 : Addr} {od40 an40 : Option Addr} {sl40 : Array (Option Value)} {oc40 kV40 dc40 pm40 cd40 ct40 : Value}
    {f41 : Addr} {od41 an41 : Option Addr} {sl41 : Array (Option Value)} {oc41 kV41 dc41 pm41 cd41 ct41 : Value}
    {f42 : Addr} {od42 an42 : Option Addr} {sl42 : Array (Option Value)} {oc42 kV42 dc42 pm42 cd42 ct42 : Value}
    {f43 : Addr} {od43 an43 : Option Addr} {sl43 : Array (Option Value)} {oc43 kV43 dc43 pm43 cd43 ct43 : Value}
    {f44 : Addr} {od44 an44 : Option Addr} {sl44 : Array (Option Value)} {oc44 kV44 dc44 pm44 cd44 ct44 : Value}
    {f45 : Addr} {od45 an45 : Option Addr} {sl45 : Array (Option Value)} {oc45 kV45 dc45 pm45 cd45 ct45 : Value}
    {f46 : Addr} {od46 an46 : Option Addr} {sl46 : Array (Option Value)} {oc46 kV46 dc46 pm46 cd46 ct46 : Value}
    {f47 : Addr} {od47 an47 : Option Addr} {sl47 : Array (Option Value)} {oc47 kV47 dc47 pm47 cd47 ct47 : Value}
    {f48 : Addr} {od48 an48 : Option Addr} {sl48 : Array (Option Value)} {oc48 kV48 dc48 pm48 cd48 ct48 : Value}
    {f49 : Addr} {od49 an49 : Option Addr} {sl49 : Array (Option Value)} {oc49 kV49 dc49 pm49 cd49 ct49 : Value}
    {f50 : Addr} {od50 an50 : Option Addr} {sl50 : Array (Option Value)} {oc50 kV50 dc50 pm50 cd50 ct50 : Value}
    {f51 : Addr} {od51 an51 : Option Addr} {sl51 : Array (Option Value)} {oc51 kV51 dc51 pm51 cd51 ct51 : Value}
    {f52 : Addr} {od52 an52 : Option Addr} {sl52 : Array (Option Value)} {oc52 kV52 dc52 pm52 cd52 ct52 : Value}
    {f53 : Addr} {od53 an53 : Option Addr} {sl53 : Array (Option Value)} {oc53 kV53 dc53 pm53 cd53 ct53 : Value}
    {f54 : Addr} {od54 an54 : Option Addr} {sl54 : Array (Option Value)} {oc54 kV54 dc54 pm54 cd54 ct54 : Value}
    {f55 : Addr} {od55 an55 : Option Addr} {sl55 : Array (Option Value)} {oc55 kV55 dc55 pm55 cd55 ct55 : Value}
    {f56 : Addr} {od56 an56 : Option Addr} {sl56 : Array (Option Value)} {oc56 kV56 dc56 pm56 cd56 ct56 : Value}
    {cdd_Deed : ClassData}
    {cdd_Draw : ClassData}
    {cdd_Late : ClassData}
    {cdd_Let : ClassData}
    {cdd_Need : ClassData}
    {C_Row : Addr}
    {cdd_Row : ClassData}
    {cdd_Take : ClassData}
    {C_NoExpr : Addr}
    {C_HouseError : Addr}
    {nm_NoText qn_NoText : Str} {N_NoText : Addr} {bs_NoText bm_NoText sb_NoText : List Value} {sn_NoText : List Str} {ab_NoText : Bool} {col_NoText : Option Bool} {dd_NoText : Option Addr} {k0_NoText k1_NoText k2_NoText k3_NoText k5_NoText : Option Value}
    {t_DEEPEST : Tok}
    {t_FIGURES : Tok}
    {t_LETTERS : Tok}
    {t_LONGEST : Tok}
    {t_MOST_FIGURES : Tok}
    {t_MOST_NAMES : Tok}
    {t_MOST_TERMS : Tok}
    (qa_NoText : PySem.W.nsIn K mainGlobals "NoText" = some (some (.ref C_NoText)))
    (m0_NoText : PySem.W.findIn K (.ref C_NoText) "__init__" = some (some (.ref f0)))
    (tf0 : PySem.W.typeIn K (.ref f0) = some (.type "function"))
    (l0 : K.lookup f0 = some ⟨oc0, od0, .func (PySem.W.fnOf "__init__" "NoText.__init__" (defArgs s_NoText___init) (defBody s_NoText___init) (defScope s_NoText___init) .none kV0 dc0 pm0 an0 cd0 ct0), sl0⟩)
    (c0 : PySem.W.codeIn K cd0 "NoText.__init__" = true)
    (k0 : PySem.W.keepIn K (.ref f0) = true)
    (a1 : PySem.W.nsIn K mainGlobals "is_name" = some (some (.ref f1)))
    (l1 : K.lookup f1 = some ⟨oc1, od1, .func (PySem.W.fnOf "is_name" "is_name" (defArgs s_is_name) (defBody s_is_name) (defScope s_is_name) .none kV1 dc1 pm1 an1 cd1 ct1), sl1⟩)
    (c1 : PySem.W.codeIn K cd1 "is_name" = true)
    (k1 : PySem.W.keepIn K (.ref f1) = true)
    (a2 : PySem.W.nsIn K mainGlobals "are_names" = some (some (.ref f2)))
    (l2 : K.lookup f2 = some ⟨oc2, od2, .func (PySem.W.fnOf "are_names" "are_names" (defArgs s_are_names) (defBody s_are_names) (defScope s_are_names) .none kV2 dc2 pm2 an2 cd2 ct2), sl2⟩)
    (c2 : PySem.W.codeIn K cd2 "are_names" = true)
    (k2 : PySem.W.keepIn K (.ref f2) = true)
    (a3 : PySem.W.nsIn K mainGlobals "is_address" = some (some (.ref f3)))
    (l3 : K.lookup f3 = some ⟨oc3, od3, .func (PySem.W.fnOf "is_address" "is_address" (defArgs s_is_address) (defBody s_is_address) (defScope s_is_address) .none kV3 dc3 pm3 an3 cd3 ct3), sl3⟩)
    (c3 : PySem.W.codeIn K cd3 "is_address" = true)
    (k3 : PySem.W.keepIn K (.ref f3) = true)
    (a4 : PySem.W.nsIn K mainGlobals "is_written" = some (some (.ref f4)))
    (l4 : K.lookup f4 = some ⟨oc4, od4, .func (PySem.W.fnOf "is_written" "is_written" (defArgs s_is_written) (defBody s_is_written) (defScope s_is_written) .none kV4 dc4 pm4 an4 cd4 ct4), sl4⟩)
    (c4 : PySem.W.codeIn K cd4 "is_written" = true)
    (k4 : PySem.W.keepIn K (.ref f4) = true)
    (a5 : PySem.W.nsIn K mainGlobals "sign_of" = some (some (.ref f5)))
    (l5 : K.lookup f5 = some ⟨oc5, od5, .func (PySem.W.fnOf "sign_of" "sign_of" (defArgs s_sign_of) (defBody s_sign_of) (defScope s_sign_of) .none kV5 dc5 pm5 an5 cd5 ct5), sl5⟩)
    (c5 : PySem.W.codeIn K cd5 "sign_of" = true)
    (k5 : PySem.W.keepIn K (.ref f5) = true)
    (a6 : PySem.W.nsIn K mainGlobals "thing_of" = some (some (.ref f6)))
    (l6 : K.lookup f6 = some ⟨oc6, od6, .func (PySem.W.fnOf "thing_of" "thing_of" (defArgs s_thing_of) (defBody s_thing_of) (defScope s_thing_of) .none kV6 dc6 pm6 an6 cd6 ct6), sl6⟩)
    (c6 : PySem.W.codeIn K cd6 "thing_of" = true)
    (k6 : PySem.W.keepIn K (.ref f6) = true)
    (a7 : PySem.W.nsIn K mainGlobals "read_expr" = some (some (.ref f7)))
    (l7 : K.lookup f7 = some ⟨oc7, od7, .func (PySem.W.fnOf "read_expr" "read_expr" (defArgs s_read_expr) (defBody s_read_expr) (defScope s_read_expr) .none kV7 dc7 pm7 an7 cd7 ct7), sl7⟩)
    (c7 : PySem.W.codeIn K cd7 "read_expr" = true)
    (k7 : PySem.W.keepIn K (.ref f7) = true)
    (a8 : PySem.W.nsIn K mainGlobals "has_call" = some (some (.ref f8)))
    (l8 : K.lookup f8 = some ⟨oc8, od8, .func (PySem.W.fnOf "has_call" "has_call" (defArgs s_has_call) (defBody s_has_call) (defScope s_has_call) .none kV8 dc8 pm8 an8 cd8 ct8), sl8⟩)
    (c8 : PySem.W.codeIn K cd8 "has_call" = true)
    (k8 : PySem.W.keepIn K (.ref f8) = true)
    (a9 : PySem.W.nsIn K mainGlobals "show_term" = some (some (.ref f9)))
    (l9 : K.lookup f9 = some ⟨oc9, od9, .func (PySem.W.fnOf "show_term" "show_term" (defArgs s_show_term) (defBody s_show_term) (defScope s_show_term) .none kV9 dc9 pm9 an9 cd9 ct9), sl9⟩)
    (c9 : PySem.W.codeIn K cd9 "show_term" = true)
    (k9 : PySem.W.keepIn K (.ref f9) = true)
    (a10 : PySem.W.nsIn K mainGlobals "show_expr" = some (some (.ref f10)))
    (l10 : K.lookup f10 = some ⟨oc10, od10, .func (PySem.W.fnOf "show_expr" "show_expr" (defArgs s_show_expr) (defBody s_show_expr) (defScope s_show_expr) .none kV10 dc10 pm10 an10 cd10 ct10), sl10⟩)
    (c10 : PySem.W.codeIn K cd10 "show_expr" = true)
    (k10 : PySem.W.keepIn K (.ref f10) = true)
    (qa_Let : PySem.W.nsIn K mainGlobals "Let" = some (some (.ref C_Let)))
    (m11_Let : PySem.W.findIn K (.ref C_Let) "__init__" = some (some (.ref f11)))
    (fn11 : PySem.W.isFn K (.ref f11) = true)
    (l11 : K.lookup f11 = some ⟨oc11, od11, .func (PySem.W.fnOf "__init__" "Let.__init__" (defArgs s_Let___init) (defBody s_Let___init) (defScope s_Let___init) .none kV11 dc11 pm11 an11 cd11 ct11), sl11⟩)
    (c11 : PySem.W.codeIn K cd11 "Let.__init__" = true)
    (k11 : PySem.W.keepIn K (.ref f11) = true)
    (qa_Deed : PySem.W.nsIn K mainGlobals "Deed" = some (some (.ref C_Deed)))
    (m12_Deed : PySem.W.findIn K (.ref C_Deed) "__init__" = some (some (.ref f12)))
    (fn12 : PySem.W.isFn K (.ref f12) = true)
    (l12 : K.lookup f12 = some ⟨oc12, od12, .func (PySem.W.fnOf "__init__" "Deed.__init__" (defArgs s_Deed___init) (defBody s_Deed___init) (defScope s_Deed___init) .none kV12 dc12 pm12 an12 cd12 ct12), sl12⟩)
    (c12 : PySem.W.codeIn K cd12 "Deed.__init__" = true)
    (k12 : PySem.W.keepIn K (.ref f12) = true)
    (qa_Draw : PySem.W.nsIn K mainGlobals "Draw" = some (some (.ref C_Draw)))
    (m13_Draw : PySem.W.findIn K (.ref C_Draw) "__init__" = some (some (.ref f13)))
    (fn13 : PySem.W.isFn K (.ref f13) = true)
    (l13 : K.lookup f13 = some ⟨oc13, od13, .func (PySem.W.fnOf "__init__" "Draw.__init__" (defArgs s_Draw___init) (defBody s_Draw___init) (defScope s_Draw___init) .none kV13 dc13 pm13 an13 cd13 ct13), sl13⟩)
    (c13 : PySem.W.codeIn K cd13 "Draw.__init__" = true)
    (k13 : PySem.W.keepIn K (.ref f13) = true)
    (qa_Late : PySem.W.nsIn K mainGlobals "Late" = some (some (.ref C_Late)))
    (m14_Late : PySem.W.findIn K (.ref C_Late) "__init__" = some (some (.ref f14)))
    (fn14 : PySem.W.isFn K (.ref f14) = true)
    (l14 : K.lookup f14 = some ⟨oc14, od14, .func (PySem.W.fnOf "__init__" "Late.__init__" (defArgs s_Late___init) (defBody s_Late___init) (defScope s_Late___init) .none kV14 dc14 pm14 an14 cd14 ct14), sl14⟩)
    (c14 : PySem.W.codeIn K cd14 "Late.__init__" = true)
    (k14 : PySem.W.keepIn K (.ref f14) = true)
    (qa_Take : PySem.W.nsIn K mainGlobals "Take" = some (some (.ref C_Take)))
    (m15_Take : PySem.W.findIn K (.ref C_Take) "__init__" = some (some (.ref f15)))
    (fn15 : PySem.W.isFn K (.ref f15) = true)
    (l15 : K.lookup f15 = some ⟨oc15, od15, .func (PySem.W.fnOf "__init__" "Take.__init__" (defArgs s_Take___init) (defBody s_Take___init) (defScope s_Take___init) .none kV15 dc15 pm15 an15 cd15 ct15), sl15⟩)
    (c15 : PySem.W.codeIn K cd15 "Take.__init__" = true)
    (k15 : PySem.W.keepIn K (.ref f15) = true)
    (qa_Need : PySem.W.nsIn K mainGlobals "Need" = some (some (.ref C_Need)))
    (m16_Need : PySem.W.findIn K (.ref C_Need) "__init__" = some (some (.ref f16)))
    (fn16 : PySem.W.isFn K (.ref f16) = true)
    (l16 : K.lookup f16 = some ⟨oc16, od16, .func (PySem.W.fnOf "__init__" "Need.__init__" (defArgs s_Need___init) (defBody s_Need___init) (defScope s_Need___init) .none kV16 dc16 pm16 an16 cd16 ct16), sl16⟩)
    (c16 : PySem.W.codeIn K cd16 "Need.__init__" = true)
    (k16 : PySem.W.keepIn K (.ref f16) = true)
    (m17_Let : PySem.W.findIn K (.ref C_Let) "binds" = some (some (.ref f17)))
    (fn17 : PySem.W.isFn K (.ref f17) = true)
    (l17 : K.lookup f17 = some ⟨oc17, od17, .func (PySem.W.fnOf "binds" "Let.binds" (defArgs s_Let_binds) (defBody s_Let_binds) (defScope s_Let_binds) .none kV17 dc17 pm17 an17 cd17 ct17), sl17⟩)
    (c17 : PySem.W.codeIn K cd17 "Let.binds" = true)
    (k17 : PySem.W.keepIn K (.ref f17) = true)
    (m18_Deed : PySem.W.findIn K (.ref C_Deed) "binds" = some (some (.ref f18)))
    (fn18 : PySem.W.isFn K (.ref f18) = true)
    (l18 : K.lookup f18 = some ⟨oc18, od18, .func (PySem.W.fnOf "binds" "Deed.binds" (defArgs s_Deed_binds) (defBody s_Deed_binds) (defScope s_Deed_binds) .none kV18 dc18 pm18 an18 cd18 ct18), sl18⟩)
    (c18 : PySem.W.codeIn K cd18 "Deed.binds" = true)
    (k18 : PySem.W.keepIn K (.ref f18) = true)
    (m19_Draw : PySem.W.findIn K (.ref C_Draw) "binds" = some (some (.ref f19)))
    (fn19 : PySem.W.isFn K (.ref f19) = true)
    (l19 : K.lookup f19 = some ⟨oc19, od19, .func (PySem.W.fnOf "binds" "Draw.binds" (defArgs s_Draw_binds) (defBody s_Draw_binds) (defScope s_Draw_binds) .none kV19 dc19 pm19 an19 cd19 ct19), sl19⟩)
    (c19 : PySem.W.codeIn K cd19 "Draw.binds" = true)
    (k19 : PySem.W.keepIn K (.ref f19) = true)
    (m20_Late : PySem.W.findIn K (.ref C_Late) "binds" = some (some (.ref f20)))
    (fn20 : PySem.W.isFn K (.ref f20) = true)
    (l20 : K.lookup f20 = some ⟨oc20, od20, .func (PySem.W.fnOf "binds" "Late.binds" (defArgs s_Late_binds) (defBody s_Late_binds) (defScope s_Late_binds) .none kV20 dc20 pm20 an20 cd20 ct20), sl20⟩)
    (c20 : PySem.W.codeIn K cd20 "Late.binds" = true)
    (k20 : PySem.W.keepIn K (.ref f20) = true)
    (m21_Take : PySem.W.findIn K (.ref C_Take) "binds" = some (some (.ref f21)))
    (fn21 : PySem.W.isFn K (.ref f21) = true)
    (l21 : K.lookup f21 = some ⟨oc21, od21, .func (PySem.W.fnOf "binds" "Take.binds" (defArgs s_Take_binds) (defBody s_Take_binds) (defScope s_Take_binds) .none kV21 dc21 pm21 an21 cd21 ct21), sl21⟩)
    (c21 : PySem.W.codeIn K cd21 "Take.binds" = true)
    (k21 : PySem.W.keepIn K (.ref f21) = true)
    (m22_Need : PySem.W.findIn K (.ref C_Need) "binds" = some (some (.ref f22)))
    (fn22 : PySem.W.isFn K (.ref f22) = true)
    (l22 : K.lookup f22 = some ⟨oc22, od22, .func (PySem.W.fnOf "binds" "Row.binds" (defArgs s_Row_binds) (defBody s_Row_binds) (defScope s_Row_binds) .none kV22 dc22 pm22 an22 cd22 ct22), sl22⟩)
    (c22 : PySem.W.codeIn K cd22 "Row.binds" = true)
    (k22 : PySem.W.keepIn K (.ref f22) = true)
    (m23_Let : PySem.W.findIn K (.ref C_Let) "asked" = some (some (.ref f23)))
    (fn23 : PySem.W.isFn K (.ref f23) = true)
    (m23_Deed : PySem.W.findIn K (.ref C_Deed) "asked" = some (some (.ref f23)))
    (m23_Need : PySem.W.findIn K (.ref C_Need) "asked" = some (some (.ref f23)))
    (l23 : K.lookup f23 = some ⟨oc23, od23, .func (PySem.W.fnOf "asked" "Row.asked" (defArgs s_Row_asked) (defBody s_Row_asked) (defScope s_Row_asked) .none kV23 dc23 pm23 an23 cd23 ct23), sl23⟩)
    (c23 : PySem.W.codeIn K cd23 "Row.asked" = true)
    (k23 : PySem.W.keepIn K (.ref f23) = true)
    (m24_Draw : PySem.W.findIn K (.ref C_Draw) "asked" = some (some (.ref f24)))
    (fn24 : PySem.W.isFn K (.ref f24) = true)
    (l24 : K.lookup f24 = some ⟨oc24, od24, .func (PySem.W.fnOf "asked" "Draw.asked" (defArgs s_Draw_asked) (defBody s_Draw_asked) (defScope s_Draw_asked) .none kV24 dc24 pm24 an24 cd24 ct24), sl24⟩)
    (c24 : PySem.W.codeIn K cd24 "Draw.asked" = true)
    (k24 : PySem.W.keepIn K (.ref f24) = true)
    (m25_Late : PySem.W.findIn K (.ref C_Late) "asked" = some (some (.ref f25)))
    (fn25 : PySem.W.isFn K (.ref f25) = true)
    (l25 : K.lookup f25 = some ⟨oc25, od25, .func (PySem.W.fnOf "asked" "Late.asked" (defArgs s_Late_asked) (defBody s_Late_asked) (defScope s_Late_asked) .none kV25 dc25 pm25 an25 cd25 ct25), sl25⟩)
    (c25 : PySem.W.codeIn K cd25 "Late.asked" = true)
    (k25 : PySem.W.keepIn K (.ref f25) = true)
    (m26_Take : PySem.W.findIn K (.ref C_Take) "asked" = some (some (.ref f26)))
    (fn26 : PySem.W.isFn K (.ref f26) = true)
    (l26 : K.lookup f26 = some ⟨oc26, od26, .func (PySem.W.fnOf "asked" "Take.asked" (defArgs s_Take_asked) (defBody s_Take_asked) (defScope s_Take_asked) .none kV26 dc26 pm26 an26 cd26 ct26), sl26⟩)
    (c26 : PySem.W.codeIn K cd26 "Take.asked" = true)
    (k26 : PySem.W.keepIn K (.ref f26) = true)
    (m27_Let : PySem.W.findIn K (.ref C_Let) "said" = some (some (.ref f27)))
    (fn27 : PySem.W.isFn K (.ref f27) = true)
    (l27 : K.lookup f27 = some ⟨oc27, od27, .func (PySem.W.fnOf "said" "Let.said" (defArgs s_Let_said) (defBody s_Let_said) (defScope s_Let_said) .none kV27 dc27 pm27 an27 cd27 ct27), sl27⟩)
    (c27 : PySem.W.codeIn K cd27 "Let.said" = true)
    (k27 : PySem.W.keepIn K (.ref f27) = true)
    (m28_Deed : PySem.W.findIn K (.ref C_Deed) "said" = some (some (.ref f28)))
    (fn28 : PySem.W.isFn K (.ref f28) = true)
    (l28 : K.lookup f28 = some ⟨oc28, od28, .func (PySem.W.fnOf "said" "Deed.said" (defArgs s_Deed_said) (defBody s_Deed_said) (defScope s_Deed_said) .none kV28 dc28 pm28 an28 cd28 ct28), sl28⟩)
    (c28 : PySem.W.codeIn K cd28 "Deed.said" = true)
    (k28 : PySem.W.keepIn K (.ref f28) = true)
    (m29_Draw : PySem.W.findIn K (.ref C_Draw) "said" = some (some (.ref f29)))
    (fn29 : PySem.W.isFn K (.ref f29) = true)
    (l29 : K.lookup f29 = some ⟨oc29, od29, .func (PySem.W.fnOf "said" "Draw.said" (defArgs s_Draw_said) (defBody s_Draw_said) (defScope s_Draw_said) .none kV29 dc29 pm29 an29 cd29 ct29), sl29⟩)
    (c29 : PySem.W.codeIn K cd29 "Draw.said" = true)
    (k29 : PySem.W.keepIn K (.ref f29) = true)
    (m30_Late : PySem.W.findIn K (.ref C_Late) "said" = some (some (.ref f30)))
    (fn30 : PySem.W.isFn K (.ref f30) = true)
    (l30 : K.lookup f30 = some ⟨oc30, od30, .func (PySem.W.fnOf "said" "Late.said" (defArgs s_Late_said) (defBody s_Late_said) (defScope s_Late_said) .none kV30 dc30 pm30 an30 cd30 ct30), sl30⟩)
    (c30 : PySem.W.codeIn K cd30 "Late.said" = true)
    (k30 : PySem.W.keepIn K (.ref f30) = true)
    (m31_Take : PySem.W.findIn K (.ref C_Take) "said" = some (some (.ref f31)))
    (fn31 : PySem.W.isFn K (.ref f31) = true)
    (l31 : K.lookup f31 = some ⟨oc31, od31, .func (PySem.W.fnOf "said" "Take.said" (defArgs s_Take_said) (defBody s_Take_said) (defScope s_Take_said) .none kV31 dc31 pm31 an31 cd31 ct31), sl31⟩)
    (c31 : PySem.W.codeIn K cd31 "Take.said" = true)
    (k31 : PySem.W.keepIn K (.ref f31) = true)
    (m32_Need : PySem.W.findIn K (.ref C_Need) "said" = some (some (.ref f32)))
    (fn32 : PySem.W.isFn K (.ref f32) = true)
    (l32 : K.lookup f32 = some ⟨oc32, od32, .func (PySem.W.fnOf "said" "Need.said" (defArgs s_Need_said) (defBody s_Need_said) (defScope s_Need_said) .none kV32 dc32 pm32 an32 cd32 ct32), sl32⟩)
    (c32 : PySem.W.codeIn K cd32 "Need.said" = true)
    (k32 : PySem.W.keepIn K (.ref f32) = true)
    (a33 : PySem.W.nsIn K mainGlobals "held_row" = some (some (.ref f33)))
    (l33 : K.lookup f33 = some ⟨oc33, od33, .func (PySem.W.fnOf "held_row" "held_row" (defArgs s_held_row) (defBody s_held_row) (defScope s_held_row) .none kV33 dc33 pm33 an33 cd33 ct33), sl33⟩)
    (c33 : PySem.W.codeIn K cd33 "held_row" = true)
    (k33 : PySem.W.keepIn K (.ref f33) = true)
    (a34 : PySem.W.nsIn K mainGlobals "take_row" = some (some (.ref f34)))
    (l34 : K.lookup f34 = some ⟨oc34, od34, .func (PySem.W.fnOf "take_row" "take_row" (defArgs s_take_row) (defBody s_take_row) (defScope s_take_row) .none kV34 dc34 pm34 an34 cd34 ct34), sl34⟩)
    (c34 : PySem.W.codeIn K cd34 "take_row" = true)
    (k34 : PySem.W.keepIn K (.ref f34) = true)
    (a35 : PySem.W.nsIn K mainGlobals "told_row" = some (some (.ref f35)))
    (l35 : K.lookup f35 = some ⟨oc35, od35, .func (PySem.W.fnOf "told_row" "told_row" (defArgs s_told_row) (defBody s_told_row) (defScope s_told_row) .none kV35 dc35 pm35 an35 cd35 ct35), sl35⟩)
    (c35 : PySem.W.codeIn K cd35 "told_row" = true)
    (k35 : PySem.W.keepIn K (.ref f35) = true)
    (a36 : PySem.W.nsIn K mainGlobals "row_of" = some (some (.ref f36)))
    (l36 : K.lookup f36 = some ⟨oc36, od36, .func (PySem.W.fnOf "row_of" "row_of" (defArgs s_row_of) (defBody s_row_of) (defScope s_row_of) .none kV36 dc36 pm36 an36 cd36 ct36), sl36⟩)
    (c36 : PySem.W.codeIn K cd36 "row_of" = true)
    (k36 : PySem.W.keepIn K (.ref f36) = true)
    (a37 : PySem.W.nsIn K mainGlobals "read_row" = some (some (.ref f37)))
    (l37 : K.lookup f37 = some ⟨oc37, od37, .func (PySem.W.fnOf "read_row" "read_row" (defArgs s_read_row) (defBody s_read_row) (defScope s_read_row) .none kV37 dc37 pm37 an37 cd37 ct37), sl37⟩)
    (c37 : PySem.W.codeIn K cd37 "read_row" = true)
    (k37 : PySem.W.keepIn K (.ref f37) = true)
    (a38 : PySem.W.nsIn K mainGlobals "_law_cell" = some (some (.ref f38)))
    (l38 : K.lookup f38 = some ⟨oc38, od38, .func (PySem.W.fnOf "_law_cell" "_law_cell" (defArgs s_law_cell) (defBody s_law_cell) (defScope s_law_cell) .none kV38 dc38 pm38 an38 cd38 ct38), sl38⟩)
    (c38 : PySem.W.codeIn K cd38 "_law_cell" = true)
    (k38 : PySem.W.keepIn K (.ref f38) = true)
    (a39 : PySem.W.nsIn K mainGlobals "_law_sub" = some (some (.ref f39)))
    (l39 : K.lookup f39 = some ⟨oc39, od39, .func (PySem.W.fnOf "_law_sub" "_law_sub" (defArgs s_law_sub) (defBody s_law_sub) (defScope s_law_sub) .none kV39 dc39 pm39 an39 cd39 ct39), sl39⟩)
    (c39 : PySem.W.codeIn K cd39 "_law_sub" = true)
    (k39 : PySem.W.keepIn K (.ref f39) = true)
    (a40 : PySem.W.nsIn K mainGlobals "_law_pick" = some (some (.ref f40)))
    (l40 : K.lookup f40 = some ⟨oc40, od40, .func (PySem.W.fnOf "_law_pick" "_law_pick" (defArgs s_law_pick) (defBody s_law_pick) (defScope s_law_pick) .none kV40 dc40 pm40 an40 cd40 ct40), sl40⟩)
    (c40 : PySem.W.codeIn K cd40 "_law_pick" = true)
    (k40 : PySem.W.keepIn K (.ref f40) = true)
    (a41 : PySem.W.nsIn K mainGlobals "_law_number" = some (some (.ref f41)))
    (l41 : K.lookup f41 = some ⟨oc41, od41, .func (PySem.W.fnOf "_law_number" "_law_number" (defArgs s_law_number) (defBody s_law_number) (defScope s_law_number) .none kV41 dc41 pm41 an41 cd41 ct41), sl41⟩)
    (c41 : PySem.W.codeIn K cd41 "_law_number" = true)
    (k41 : PySem.W.keepIn K (.ref f41) = true)
    (a42 : PySem.W.nsIn K mainGlobals "_law_name" = some (some (.ref f42)))
    (l42 : K.lookup f42 = some ⟨oc42, od42, .func (PySem.W.fnOf "_law_name" "_law_name" (defArgs s_law_name) (defBody s_law_name) (defScope s_law_name) .none kV42 dc42 pm42 an42 cd42 ct42), sl42⟩)
    (c42 : PySem.W.codeIn K cd42 "_law_name" = true)
    (k42 : PySem.W.keepIn K (.ref f42) = true)
    (a43 : PySem.W.nsIn K mainGlobals "_law_label" = some (some (.ref f43)))
    (l43 : K.lookup f43 = some ⟨oc43, od43, .func (PySem.W.fnOf "_law_label" "_law_label" (defArgs s_law_label) (defBody s_law_label) (defScope s_law_label) .none kV43 dc43 pm43 an43 cd43 ct43), sl43⟩)
    (c43 : PySem.W.codeIn K cd43 "_law_label" = true)
    (k43 : PySem.W.keepIn K (.ref f43) = true)
    (a44 : PySem.W.nsIn K mainGlobals "_law_address" = some (some (.ref f44)))
    (l44 : K.lookup f44 = some ⟨oc44, od44, .func (PySem.W.fnOf "_law_address" "_law_address" (defArgs s_law_address) (defBody s_law_address) (defScope s_law_address) .none kV44 dc44 pm44 an44 cd44 ct44), sl44⟩)
    (c44 : PySem.W.codeIn K cd44 "_law_address" = true)
    (k44 : PySem.W.keepIn K (.ref f44) = true)
    (a45 : PySem.W.nsIn K mainGlobals "_law_term" = some (some (.ref f45)))
    (l45 : K.lookup f45 = some ⟨oc45, od45, .func (PySem.W.fnOf "_law_term" "_law_term" (defArgs s_law_term) (defBody s_law_term) (defScope s_law_term) .none kV45 dc45 pm45 an45 cd45 ct45), sl45⟩)
    (c45 : PySem.W.codeIn K cd45 "_law_term" = true)
    (k45 : PySem.W.keepIn K (.ref f45) = true)
    (a46 : PySem.W.nsIn K mainGlobals "_law_terms" = some (some (.ref f46)))
    (l46 : K.lookup f46 = some ⟨oc46, od46, .func (PySem.W.fnOf "_law_terms" "_law_terms" (defArgs s_law_terms) (defBody s_law_terms) (defScope s_law_terms) .none kV46 dc46 pm46 an46 cd46 ct46), sl46⟩)
    (c46 : PySem.W.codeIn K cd46 "_law_terms" = true)
    (k46 : PySem.W.keepIn K (.ref f46) = true)
    (a47 : PySem.W.nsIn K mainGlobals "_law_word" = some (some (.ref f47)))
    (l47 : K.lookup f47 = some ⟨oc47, od47, .func (PySem.W.fnOf "_law_word" "_law_word" (defArgs s_law_word) (defBody s_law_word) (defScope s_law_word) .none kV47 dc47 pm47 an47 cd47 ct47), sl47⟩)
    (c47 : PySem.W.codeIn K cd47 "_law_word" = true)
    (k47 : PySem.W.keepIn K (.ref f47) = true)
    (a48 : PySem.W.nsIn K mainGlobals "_law_text" = some (some (.ref f48)))
    (l48 : K.lookup f48 = some ⟨oc48, od48, .func (PySem.W.fnOf "_law_text" "_law_text" (defArgs s_law_text) (defBody s_law_text) (defScope s_law_text) .none kV48 dc48 pm48 an48 cd48 ct48), sl48⟩)
    (c48 : PySem.W.codeIn K cd48 "_law_text" = true)
    (k48 : PySem.W.keepIn K (.ref f48) = true)
    (a49 : PySem.W.nsIn K mainGlobals "_law_row" = some (some (.ref f49)))
    (l49 : K.lookup f49 = some ⟨oc49, od49, .func (PySem.W.fnOf "_law_row" "_law_row" (defArgs s_law_row) (defBody s_law_row) (defScope s_law_row) .none kV49 dc49 pm49 an49 cd49 ct49), sl49⟩)
    (c49 : PySem.W.codeIn K cd49 "_law_row" = true)
    (k49 : PySem.W.keepIn K (.ref f49) = true)
    (a50 : PySem.W.nsIn K mainGlobals "_law_said" = some (some (.ref f50)))
    (l50 : K.lookup f50 = some ⟨oc50, od50, .func (PySem.W.fnOf "_law_said" "_law_said" (defArgs s_law_said) (defBody s_law_said) (defScope s_law_said) .none kV50 dc50 pm50 an50 cd50 ct50), sl50⟩)
    (c50 : PySem.W.codeIn K cd50 "_law_said" = true)
    (k50 : PySem.W.keepIn K (.ref f50) = true)
    (a51 : PySem.W.nsIn K mainGlobals "_law_whole" = some (some (.ref f51)))
    (l51 : K.lookup f51 = some ⟨oc51, od51, .func (PySem.W.fnOf "_law_whole" "_law_whole" (defArgs s_law_whole) (defBody s_law_whole) (defScope s_law_whole) .none kV51 dc51 pm51 an51 cd51 ct51), sl51⟩)
    (c51 : PySem.W.codeIn K cd51 "_law_whole" = true)
    (k51 : PySem.W.keepIn K (.ref f51) = true)
    (a52 : PySem.W.nsIn K mainGlobals "_law_term_is" = some (some (.ref f52)))
    (l52 : K.lookup f52 = some ⟨oc52, od52, .func (PySem.W.fnOf "_law_term_is" "_law_term_is" (defArgs s_law_term_is) (defBody s_law_term_is) (defScope s_law_term_is) .none kV52 dc52 pm52 an52 cd52 ct52), sl52⟩)
    (c52 : PySem.W.codeIn K cd52 "_law_term_is" = true)
    (k52 : PySem.W.keepIn K (.ref f52) = true)
    (a53 : PySem.W.nsIn K mainGlobals "_law_terms_are" = some (some (.ref f53)))
    (l53 : K.lookup f53 = some ⟨oc53, od53, .func (PySem.W.fnOf "_law_terms_are" "_law_terms_are" (defArgs s_law_terms_are) (defBody s_law_terms_are) (defScope s_law_terms_are) .none kV53 dc53 pm53 an53 cd53 ct53), sl53⟩)
    (c53 : PySem.W.codeIn K cd53 "_law_terms_are" = true)
    (k53 : PySem.W.keepIn K (.ref f53) = true)
    (a54 : PySem.W.nsIn K mainGlobals "_law_says" = some (some (.ref f54)))
    (l54 : K.lookup f54 = some ⟨oc54, od54, .func (PySem.W.fnOf "_law_says" "_law_says" (defArgs s_law_says) (defBody s_law_says) (defScope s_law_says) .none kV54 dc54 pm54 an54 cd54 ct54), sl54⟩)
    (c54 : PySem.W.codeIn K cd54 "_law_says" = true)
    (k54 : PySem.W.keepIn K (.ref f54) = true)
    (a55 : PySem.W.nsIn K mainGlobals "_law_is" = some (some (.ref f55)))
    (l55 : K.lookup f55 = some ⟨oc55, od55, .func (PySem.W.fnOf "_law_is" "_law_is" (defArgs s_law_is) (defBody s_law_is) (defScope s_law_is) .none kV55 dc55 pm55 an55 cd55 ct55), sl55⟩)
    (c55 : PySem.W.codeIn K cd55 "_law_is" = true)
    (k55 : PySem.W.keepIn K (.ref f55) = true)
    (a56 : PySem.W.nsIn K mainGlobals "law" = some (some (.ref f56)))
    (l56 : K.lookup f56 = some ⟨oc56, od56, .func (PySem.W.fnOf "law" "law" (defArgs s_law) (defBody s_law) (defScope s_law) .none kV56 dc56 pm56 an56 cd56 ct56), sl56⟩)
    (c56 : PySem.W.codeIn K cd56 "law" = true)
    (k56 : PySem.W.keepIn K (.ref f56) = true)
    (qb_Deed : PySem.W.plainGet K C_Deed Str.empty = true)
    (qc_Deed : PySem.W.hasDictIn K C_Deed = true)
    (qd_Deed : PySem.W.plainOver K C_Deed = true)
    (qe_Deed : PySem.W.findIn K (.ref C_Deed) "__setattr__" = some (some (.builtin "object.__setattr__")))
    (qn_Deed_name : PySem.W.findIn K (.ref C_Deed) "name" = some none)
    (qn_Deed_terms : PySem.W.findIn K (.ref C_Deed) "terms" = some none)
    (qb_Draw : PySem.W.plainGet K C_Draw Str.empty = true)
    (qc_Draw : PySem.W.hasDictIn K C_Draw = true)
    (qd_Draw : PySem.W.plainOver K C_Draw = true)
    (qe_Draw : PySem.W.findIn K (.ref C_Draw) "__setattr__" = some (some (.builtin "object.__setattr__")))
    (qn_Draw_address : PySem.W.findIn K (.ref C_Draw) "address" = some none)
    (qn_Draw_name : PySem.W.findIn K (.ref C_Draw) "name" = some none)
    (qb_Late : PySem.W.plainGet K C_Late Str.empty = true)
    (qc_Late : PySem.W.hasDictIn K C_Late = true)
    (qd_Late : PySem.W.plainOver K C_Late = true)
    (qe_Late : PySem.W.findIn K (.ref C_Late) "__setattr__" = some (some (.builtin "object.__setattr__")))
    (qn_Late_address : PySem.W.findIn K (.ref C_Late) "address" = some none)
    (qn_Late_name : PySem.W.findIn K (.ref C_Late) "name" = some none)
    (qb_Let : PySem.W.plainGet K C_Let Str.empty = true)
    (qc_Let : PySem.W.hasDictIn K C_Let = true)
    (qd_Let : PySem.W.plainOver K C_Let = true)
    (qe_Let : PySem.W.findIn K (.ref C_Let) "__setattr__" = some (some (.builtin "object.__setattr__")))
    (qn_Let_name : PySem.W.findIn K (.ref C_Let) "name" = some none)
    (qn_Let_terms : PySem.W.findIn K (.ref C_Let) "terms" = some none)
    (qb_Need : PySem.W.plainGet K C_Need Str.empty = true)
    (qc_Need : PySem.W.hasDictIn K C_Need = true)
    (qd_Need : PySem.W.plainOver K C_Need = true)
    (qe_Need : PySem.W.findIn K (.ref C_Need) "__setattr__" = some (some (.builtin "object.__setattr__")))
    (qn_Need_terms : PySem.W.findIn K (.ref C_Need) "terms" = some none)
    (qb_Take : PySem.W.plainGet K C_Take Str.empty = true)
    (qc_Take : PySem.W.hasDictIn K C_Take = true)
    (qd_Take : PySem.W.plainOver K C_Take = true)
    (qe_Take : PySem.W.findIn K (.ref C_Take) "__setattr__" = some (some (.builtin "object.__setattr__")))
    (qn_Take_address : PySem.W.findIn K (.ref C_Take) "address" = some none)
    (qn_Take_name : PySem.W.findIn K (.ref C_Take) "name" = some none)
    (qn_Take_word : PySem.W.findIn K (.ref C_Take) "word" = some none)
    (qk_Deed : PySem.W.clsIn K C_Deed = some cdd_Deed)
    (qj_Deed : PySem.W.typeIn K (.ref C_Deed) = some (.type "type"))
    (qs_Deed_Deed : PySem.W.subIn K (.ref C_Deed) (.ref C_Deed) = some true)
    (qf_Deed : PySem.W.findIn K (.ref C_Deed) "__class__" = some (some (.builtin "object.__class__")))
    (qg : PySem.W.specialIn K (.builtin "object.__class__") "__get__" = some (some (.builtin "getset_descriptor.__get__")))
    (qh : PySem.W.takesIn K (.builtin "object.__class__") = some true)
    (qi_Deed : PySem.W.mroIn K C_Deed (.type "object") = some true)
    (qz_Deed_Draw : (Value.ref C_Deed == Value.ref C_Draw) = false)
    (qk_Draw : PySem.W.clsIn K C_Draw = some cdd_Draw)
    (qj_Draw : PySem.W.typeIn K (.ref C_Draw) = some (.type "type"))
    (qs_Deed_Draw : PySem.W.subIn K (.ref C_Deed) (.ref C_Draw) = some false)
    (qz_Deed_Late : (Value.ref C_Deed == Value.ref C_Late) = false)
    (qk_Late : PySem.W.clsIn K C_Late = some cdd_Late)
    (qj_Late : PySem.W.typeIn K (.ref C_Late) = some (.type "type"))
    (qs_Deed_Late : PySem.W.subIn K (.ref C_Deed) (.ref C_Late) = some false)
    (qz_Deed_Let : (Value.ref C_Deed == Value.ref C_Let) = false)
    (qk_Let : PySem.W.clsIn K C_Let = some cdd_Let)
    (qj_Let : PySem.W.typeIn K (.ref C_Let) = some (.type "type"))
    (qs_Deed_Let : PySem.W.subIn K (.ref C_Deed) (.ref C_Let) = some false)
    (qz_Deed_Need : (Value.ref C_Deed == Value.ref C_Need) = false)
    (qk_Need : PySem.W.clsIn K C_Need = some cdd_Need)
    (qj_Need : PySem.W.typeIn K (.ref C_Need) = some (.type "type"))
    (qs_Deed_Need : PySem.W.subIn K (.ref C_Deed) (.ref C_Need) = some false)
    (qa_Row : PySem.W.nsIn K mainGlobals "Row" = some (some (.ref C_Row)))
    (qk_Row : PySem.W.clsIn K C_Row = some cdd_Row)
    (qj_Row : PySem.W.typeIn K (.ref C_Row) = some (.type "type"))
    (qs_Deed_Row : PySem.W.subIn K (.ref C_Deed) (.ref C_Row) = some true)
    (qz_Deed_Take : (Value.ref C_Deed == Value.ref C_Take) = false)
    (qk_Take : PySem.W.clsIn K C_Take = some cdd_Take)
    (qj_Take : PySem.W.typeIn K (.ref C_Take) = some (.type "type"))
    (qs_Deed_Take : PySem.W.subIn K (.ref C_Deed) (.ref C_Take) = some false)
    (qz_Draw_Deed : (Value.ref C_Draw == Value.ref C_Deed) = false)
    (qs_Draw_Deed : PySem.W.subIn K (.ref C_Draw) (.ref C_Deed) = some false)
    (qf_Draw : PySem.W.findIn K (.ref C_Draw) "__class__" = some (some (.builtin "object.__class__")))
    (qi_Draw : PySem.W.mroIn K C_Draw (.type "object") = some true)
    (qs_Draw_Draw : PySem.W.subIn K (.ref C_Draw) (.ref C_Draw) = some true)
    (qz_Draw_Late : (Value.ref C_Draw == Value.ref C_Late) = false)
    (qs_Draw_Late : PySem.W.subIn K (.ref C_Draw) (.ref C_Late) = some false)
    (qz_Draw_Let : (Value.ref C_Draw == Value.ref C_Let) = false)
    (qs_Draw_Let : PySem.W.subIn K (.ref C_Draw) (.ref C_Let) = some false)
    (qz_Draw_Need : (Value.ref C_Draw == Value.ref C_Need) = false)
    (qs_Draw_Need : PySem.W.subIn K (.ref C_Draw) (.ref C_Need) = some false)
    (qs_Draw_Row : PySem.W.subIn K (.ref C_Draw) (.ref C_Row) = some true)
    (qz_Draw_Take : (Value.ref C_Draw == Value.ref C_Take) = false)
    (qs_Draw_Take : PySem.W.subIn K (.ref C_Draw) (.ref C_Take) = some false)
    (qz_Late_Deed : (Value.ref C_Late == Value.ref C_Deed) = false)
    (qs_Late_Deed : PySem.W.subIn K (.ref C_Late) (.ref C_Deed) = some false)
    (qf_Late : PySem.W.findIn K (.ref C_Late) "__class__" = some (some (.builtin "object.__class__")))
    (qi_Late : PySem.W.mroIn K C_Late (.type "object") = some true)
    (qz_Late_Draw : (Value.ref C_Late == Value.ref C_Draw) = false)
    (qs_Late_Draw : PySem.W.subIn K (.ref C_Late) (.ref C_Draw) = some false)
    (qs_Late_Late : PySem.W.subIn K (.ref C_Late) (.ref C_Late) = some true)
    (qz_Late_Let : (Value.ref C_Late == Value.ref C_Let) = false)
    (qs_Late_Let : PySem.W.subIn K (.ref C_Late) (.ref C_Let) = some false)
    (qz_Late_Need : (Value.ref C_Late == Value.ref C_Need) = false)
    (qs_Late_Need : PySem.W.subIn K (.ref C_Late) (.ref C_Need) = some false)
    (qs_Late_Row : PySem.W.subIn K (.ref C_Late) (.ref C_Row) = some true)
    (qz_Late_Take : (Value.ref C_Late == Value.ref C_Take) = false)
    (qs_Late_Take : PySem.W.subIn K (.ref C_Late) (.ref C_Take) = some false)
    (qz_Let_Deed : (Value.ref C_Let == Value.ref C_Deed) = false)
    (qs_Let_Deed : PySem.W.subIn K (.ref C_Let) (.ref C_Deed) = some false)
    (qf_Let : PySem.W.findIn K (.ref C_Let) "__class__" = some (some (.builtin "object.__class__")))
    (qi_Let : PySem.W.mroIn K C_Let (.type "object") = some true)
    (qz_Let_Draw : (Value.ref C_Let == Value.ref C_Draw) = false)
    (qs_Let_Draw : PySem.W.subIn K (.ref C_Let) (.ref C_Draw) = some false)
    (qz_Let_Late : (Value.ref C_Let == Value.ref C_Late) = false)
    (qs_Let_Late : PySem.W.subIn K (.ref C_Let) (.ref C_Late) = some false)
    (qs_Let_Let : PySem.W.subIn K (.ref C_Let) (.ref C_Let) = some true)
    (qz_Let_Need : (Value.ref C_Let == Value.ref C_Need) = false)
    (qs_Let_Need : PySem.W.subIn K (.ref C_Let) (.ref C_Need) = some false)
    (qs_Let_Row : PySem.W.subIn K (.ref C_Let) (.ref C_Row) = some true)
    (qz_Let_Take : (Value.ref C_Let == Value.ref C_Take) = false)
    (qs_Let_Take : PySem.W.subIn K (.ref C_Let) (.ref C_Take) = some false)
    (qz_Need_Deed : (Value.ref C_Need == Value.ref C_Deed) = false)
    (qs_Need_Deed : PySem.W.subIn K (.ref C_Need) (.ref C_Deed) = some false)
    (qf_Need : PySem.W.findIn K (.ref C_Need) "__class__" = some (some (.builtin "object.__class__")))
    (qi_Need : PySem.W.mroIn K C_Need (.type "object") = some true)
    (qz_Need_Draw : (Value.ref C_Need == Value.ref C_Draw) = false)
    (qs_Need_Draw : PySem.W.subIn K (.ref C_Need) (.ref C_Draw) = some false)
    (qz_Need_Late : (Value.ref C_Need == Value.ref C_Late) = false)
    (qs_Need_Late : PySem.W.subIn K (.ref C_Need) (.ref C_Late) = some false)
    (qz_Need_Let : (Value.ref C_Need == Value.ref C_Let) = false)
    (qs_Need_Let : PySem.W.subIn K (.ref C_Need) (.ref C_Let) = some false)
    (qs_Need_Need : PySem.W.subIn K (.ref C_Need) (.ref C_Need) = some true)
    (qs_Need_Row : PySem.W.subIn K (.ref C_Need) (.ref C_Row) = some true)
    (qz_Need_Take : (Value.ref C_Need == Value.ref C_Take) = false)
    (qs_Need_Take : PySem.W.subIn K (.ref C_Need) (.ref C_Take) = some false)
    (qz_Take_Deed : (Value.ref C_Take == Value.ref C_Deed) = false)
    (qs_Take_Deed : PySem.W.subIn K (.ref C_Take) (.ref C_Deed) = some false)
    (qf_Take : PySem.W.findIn K (.ref C_Take) "__class__" = some (some (.builtin "object.__class__")))
    (qi_Take : PySem.W.mroIn K C_Take (.type "object") = some true)
    (qz_Take_Draw : (Value.ref C_Take == Value.ref C_Draw) = false)
    (qs_Take_Draw : PySem.W.subIn K (.ref C_Take) (.ref C_Draw) = some false)
    (qz_Take_Late : (Value.ref C_Take == Value.ref C_Late) = false)
    (qs_Take_Late : PySem.W.subIn K (.ref C_Take) (.ref C_Late) = some false)
    (qz_Take_Let : (Value.ref C_Take == Value.ref C_Let) = false)
    (qs_Take_Let : PySem.W.subIn K (.ref C_Take) (.ref C_Let) = some false)
    (qz_Take_Need : (Value.ref C_Take == Value.ref C_Need) = false)
    (qs_Take_Need : PySem.W.subIn K (.ref C_Take) (.ref C_Need) = some false)
    (qs_Take_Row : PySem.W.subIn K (.ref C_Take) (.ref C_Row) = some true)
    (qs_Take_Take : PySem.W.subIn K (.ref C_Take) (.ref C_Take) = some true)
    (qa_NoExpr : PySem.W.nsIn K mainGlobals "NoExpr" = some (some (.ref C_NoExpr)))
    (xb_NoExpr : PySem.W.excIn K C_NoExpr [.type "ValueError", .type "Exception", .type "BaseException", .type "object"] "ValueError.__new__" = true)
    (kc_NoExpr : PySem.W.keepIn K (.ref C_NoExpr) = true)
    (xd_NoExpr : PySem.W.subIn K (.ref C_NoExpr) (.type "BaseException") = some true)
    (qj_NoExpr : PySem.W.typeIn K (.ref C_NoExpr) = some (.type "type"))
    (qa_HouseError : PySem.W.nsIn K mainGlobals "HouseError" = some (some (.ref C_HouseError)))
    (rd_HouseError : PySem.W.readsIn K C_HouseError (.type "type") = true)
    (sg_HouseError : PySem.W.specialIn K (.ref C_HouseError) "__getattribute__" = some (some (.builtin "type.__getattribute__")))
    (fc_HouseError : PySem.W.findCls K (.ref C_HouseError) (.type "type") "__init__" = some (.val (.builtin "ValueError.__init__")))
    (qc_NoExpr : PySem.W.hasDictIn K C_NoExpr = true)
    (qs_NoText_NoExpr : PySem.W.subIn K (.ref C_NoText) (.ref C_NoExpr) = some false)
    (qs_NoExpr_NoExpr : PySem.W.subIn K (.ref C_NoExpr) (.ref C_NoExpr) = some true)
    (qs_HouseError_NoExpr : PySem.W.subIn K (.ref C_HouseError) (.ref C_NoExpr) = some false)
    (lx_NoText : K.lookup C_NoText = some (excClassObj nm_NoText qn_NoText C_NoText N_NoText bs_NoText bm_NoText true sn_NoText sb_NoText ab_NoText col_NoText dd_NoText k0_NoText k1_NoText k2_NoText k3_NoText k5_NoText "ValueError.__new__"))
    (rx_NoText : PySem.HandSPX.refsVE bm_NoText = true)
    (sa_NoText : PySem.W.findIn K (.ref C_NoText) "__setattr__" = some (some (.builtin "object.__setattr__")))
    (xd_NoText : PySem.W.subIn K (.ref C_NoText) (.type "BaseException") = some true)
    (qj_NoText : PySem.W.typeIn K (.ref C_NoText) = some (.type "type"))
    (kc_NoText : PySem.W.keepIn K (.ref C_NoText) = true)
    (qn_NoText_at : PySem.W.findIn K (.ref C_NoText) "at" = some none)
    (qm_Let : PySem.W.makesIn K C_Let = true)
    (kc_Let : PySem.W.keepIn K (.ref C_Let) = true)
    (qm_Deed : PySem.W.makesIn K C_Deed = true)
    (kc_Deed : PySem.W.keepIn K (.ref C_Deed) = true)
    (qm_Draw : PySem.W.makesIn K C_Draw = true)
    (kc_Draw : PySem.W.keepIn K (.ref C_Draw) = true)
    (qm_Late : PySem.W.makesIn K C_Late = true)
    (kc_Late : PySem.W.keepIn K (.ref C_Late) = true)
    (qm_Take : PySem.W.makesIn K C_Take = true)
    (kc_Take : PySem.W.keepIn K (.ref C_Take) = true)
    (qm_Need : PySem.W.makesIn K C_Need = true)
    (kc_Need : PySem.W.keepIn K (.ref C_Need) = true)
    (z_all : PySem.W.nsIn K mainGlobals "all" = some none)
    (z_bool : PySem.W.nsIn K mainGlobals "bool" = some none)
    (z_int : PySem.W.nsIn K mainGlobals "int" = some none)
    (z_isinstance : PySem.W.nsIn K mainGlobals "isinstance" = some none)
    (z_len : PySem.W.nsIn K mainGlobals "len" = some none)
    (z_list : PySem.W.nsIn K mainGlobals "list" = some none)
    (z_max : PySem.W.nsIn K mainGlobals "max" = some none)
    (z_min : PySem.W.nsIn K mainGlobals "min" = some none)
    (z_range : PySem.W.nsIn K mainGlobals "range" = some none)
    (z_str : PySem.W.nsIn K mainGlobals "str" = some none)
    (z_tuple : PySem.W.nsIn K mainGlobals "tuple" = some none)
    (z_zip : PySem.W.nsIn K mainGlobals "zip" = some none)
    (g_DEEPEST : PySem.W.nsIn K mainGlobals "DEEPEST" = some (some (.int (3 : Int) t_DEEPEST)))
    (g_FIGURES : PySem.W.nsIn K mainGlobals "FIGURES" = some (some (.str (S FIGURES) t_FIGURES)))
    (g_LETTERS : PySem.W.nsIn K mainGlobals "LETTERS" = some (some (.str (S LETTERS) t_LETTERS)))
    (g_LONGEST : PySem.W.nsIn K mainGlobals "LONGEST" = some (some (.int (8 : Int) t_LONGEST)))
    (g_MOST_FIGURES : PySem.W.nsIn K mainGlobals "MOST_FIGURES" = some (some (.int (20 : Int) t_MOST_FIGURES)))
    (g_MOST_NAMES : PySem.W.nsIn K mainGlobals "MOST_NAMES" = some (some (.int (4 : Int) t_MOST_NAMES)))
    (g_MOST_TERMS : PySem.W.nsIn K mainGlobals "MOST_TERMS" = some (some (.int (6 : Int) t_MOST_TERMS))) :
    ∃ fd : FuncData, (∀ (s : Shared) (u : Value), BindsTo s fd ⟨[u], []⟩ [("_law_script", u)]) ∧ ∀ base : Heap, K.In base → base.Ns mainGlobals mg → FnOk P w K mg base (L2.CX P w) 8 fa fd ["_law_script"] (sp_law K) := by
  have e := hfa.symm.trans (PySem.W.mg_of X G a56)
  cases e
  have cl_Deed : ClsA K "Deed" C_Deed := ⟨qa_Deed, ⟨qb_Deed, qc_Deed, qd_Deed, qe_Deed⟩⟩
  have fa_Deed_name : FldA K "Deed" "name" := ⟨⟨C_Deed, cl_Deed, qn_Deed_name⟩⟩
  have fa_Deed_terms : FldA K "Deed" "terms" := ⟨⟨C_Deed, cl_Deed, qn_Deed_terms⟩⟩
  have cl_Draw : ClsA K "Draw" C_Draw := ⟨qa_Draw, ⟨qb_Draw, qc_Draw, qd_Draw, qe_Draw⟩⟩
  have fa_Draw_address : FldA K "Draw" "address" := ⟨⟨C_Draw, cl_Draw, qn_Draw_address⟩⟩
  have fa_Draw_name : FldA K "Draw" "name" := ⟨⟨C_Draw, cl_Draw, qn_Draw_name⟩⟩
  have cl_Late : ClsA K "Late" C_Late := ⟨qa_Late, ⟨qb_Late, qc_Late, qd_Late, qe_Late⟩⟩
  have fa_Late_address : FldA K "Late" "address" := ⟨⟨C_Late, cl_Late, qn_Late_address⟩⟩
  have fa_Late_name : FldA K "Late" "name" := ⟨⟨C_Late, cl_Late, qn_Late_name⟩⟩
  have cl_Let : ClsA K "Let" C_Let := ⟨qa_Let, ⟨qb_Let, qc_Let, qd_Let, qe_Let⟩⟩
  have fa_Let_name : FldA K "Let" "name" := ⟨⟨C_Let, cl_Let, qn_Let_name⟩⟩
  have fa_Let_terms : FldA K "Let" "terms" := ⟨⟨C_Let, cl_Let, qn_Let_terms⟩⟩
  have cl_Need : ClsA K "Need" C_Need := ⟨qa_Need, ⟨qb_Need, qc_Need, qd_Need, qe_Need⟩⟩
  have fa_Need_terms : FldA K "Need" "terms" := ⟨⟨C_Need, cl_Need, qn_Need_terms⟩⟩
  have cl_Take : ClsA K "Take" C_Take := ⟨qa_Take, ⟨qb_Take, qc_Take, qd_Take, qe_Take⟩⟩
  have fa_Take_address : FldA K "Take" "address" := ⟨⟨C_Take, cl_Take, qn_Take_address⟩⟩
  have fa_Take_name : FldA K "Take" "name" := ⟨⟨C_Take, cl_Take, qn_Take_name⟩⟩
  have fa_Take_word : FldA K "Take" "word" := ⟨⟨C_Take, cl_Take, qn_Take_word⟩⟩
  have isa_Deed_Deed : IsA K mg "Deed" "Deed" true := ⟨⟨C_Deed, C_Deed, cl_Deed, ⟨qf_Deed, qg, qh, qi_Deed⟩, PySem.W.mg_of X G qa_Deed, (kit_own qk_Deed qj_Deed qs_Deed_Deed (fun _ => rfl))⟩⟩
  have isa_Deed_Draw : IsA K mg "Deed" "Draw" false := ⟨⟨C_Deed, C_Draw, cl_Deed, ⟨qf_Deed, qg, qh, qi_Deed⟩, PySem.W.mg_of X G qa_Draw, (kit_own qk_Draw qj_Draw qs_Deed_Draw (fun h => absurd h (by rw [qz_Deed_Draw]; exact Bool.false_ne_true)))⟩⟩
  have isa_Deed_Late : IsA K mg "Deed" "Late" false := ⟨⟨C_Deed, C_Late, cl_Deed, ⟨qf_Deed, qg, qh, qi_Deed⟩, PySem.W.mg_of X G qa_Late, (kit_own qk_Late qj_Late qs_Deed_Late (fun h => absurd h (by rw [qz_Deed_Late]; exact Bool.false_ne_true)))⟩⟩
  have isa_Deed_Let : IsA K mg "Deed" "Let" false := ⟨⟨C_Deed, C_Let, cl_Deed, ⟨qf_Deed, qg, qh, qi_Deed⟩, PySem.W.mg_of X G qa_Let, (kit_own qk_Let qj_Let qs_Deed_Let (fun h => absurd h (by rw [qz_Deed_Let]; exact Bool.false_ne_true)))⟩⟩
  have isa_Deed_Need : IsA K mg "Deed" "Need" false := ⟨⟨C_Deed, C_Need, cl_Deed, ⟨qf_Deed, qg, qh, qi_Deed⟩, PySem.W.mg_of X G qa_Need, (kit_own qk_Need qj_Need qs_Deed_Need (fun h => absurd h (by rw [qz_Deed_Need]; exact Bool.false_ne_true)))⟩⟩
  have isa_Deed_Row : IsA K mg "Deed" "Row" true := ⟨⟨C_Deed, C_Row, cl_Deed, ⟨qf_Deed, qg, qh, qi_Deed⟩, PySem.W.mg_of X G qa_Row, (kit_own qk_Row qj_Row qs_Deed_Row (fun _ => rfl))⟩⟩
  have isa_Deed_Take : IsA K mg "Deed" "Take" false := ⟨⟨C_Deed, C_Take, cl_Deed, ⟨qf_Deed, qg, qh, qi_Deed⟩, PySem.W.mg_of X G qa_Take, (kit_own qk_Take qj_Take qs_Deed_Take (fun h => absurd h (by rw [qz_Deed_Take]; exact Bool.false_ne_true)))⟩⟩
  have isa_Draw_Deed : IsA K mg "Draw" "Deed" false := ⟨⟨C_Draw, C_Deed, cl_Draw, ⟨qf_Draw, qg, qh, qi_Draw⟩, PySem.W.mg_of X G qa_Deed, (kit_own qk_Deed qj_Deed qs_Draw_Deed (fun h => absurd h (by rw [qz_Draw_Deed]; exact Bool.false_ne_true)))⟩⟩
  have isa_Draw_Draw : IsA K mg "Draw" "Draw" true := ⟨⟨C_Draw, C_Draw, cl_Draw, ⟨qf_Draw, qg, qh, qi_Draw⟩, PySem.W.mg_of X G qa_Draw, (kit_own qk_Draw qj_Draw qs_Draw_Draw (fun _ => rfl))⟩⟩
  have isa_Draw_Late : IsA K mg "Draw" "Late" false := ⟨⟨C_Draw, C_Late, cl_Draw, ⟨qf_Draw, qg, qh, qi_Draw⟩, PySem.W.mg_of X G qa_Late, (kit_own qk_Late qj_Late qs_Draw_Late (fun h => absurd h (by rw [qz_Draw_Late]; exact Bool.false_ne_true)))⟩⟩
  have isa_Draw_Let : IsA K mg "Draw" "Let" false := ⟨⟨C_Draw, C_Let, cl_Draw, ⟨qf_Draw, qg, qh, qi_Draw⟩, PySem.W.mg_of X G qa_Let, (kit_own qk_Let qj_Let qs_Draw_Let (fun h => absurd h (by rw [qz_Draw_Let]; exact Bool.false_ne_true)))⟩⟩
  have isa_Draw_Need : IsA K mg "Draw" "Need" false := ⟨⟨C_Draw, C_Need, cl_Draw, ⟨qf_Draw, qg, qh, qi_Draw⟩, PySem.W.mg_of X G qa_Need, (kit_own qk_Need qj_Need qs_Draw_Need (fun h => absurd h (by rw [qz_Draw_Need]; exact Bool.false_ne_true)))⟩⟩
  have isa_Draw_Row : IsA K mg "Draw" "Row" true := ⟨⟨C_Draw, C_Row, cl_Draw, ⟨qf_Draw, qg, qh, qi_Draw⟩, PySem.W.mg_of X G qa_Row, (kit_own qk_Row qj_Row qs_Draw_Row (fun _ => rfl))⟩⟩
  have isa_Draw_Take : IsA K mg "Draw" "Take" false := ⟨⟨C_Draw, C_Take, cl_Draw, ⟨qf_Draw, qg, qh, qi_Draw⟩, PySem.W.mg_of X G qa_Take, (kit_own qk_Take qj_Take qs_Draw_Take (fun h => absurd h (by rw [qz_Draw_Take]; exact Bool.false_ne_true)))⟩⟩
  have isa_Late_Deed : IsA K mg "Late" "Deed" false := ⟨⟨C_Late, C_Deed, cl_Late, ⟨qf_Late, qg, qh, qi_Late⟩, PySem.W.mg_of X G qa_Deed, (kit_own qk_Deed qj_Deed qs_Late_Deed (fun h => absurd h (by rw [qz_Late_Deed]; exact Bool.false_ne_true)))⟩⟩
  have isa_Late_Draw : IsA K mg "Late" "Draw" false := ⟨⟨C_Late, C_Draw, cl_Late, ⟨qf_Late, qg, qh, qi_Late⟩, PySem.W.mg_of X G qa_Draw, (kit_own qk_Draw qj_Draw qs_Late_Draw (fun h => absurd h (by rw [qz_Late_Draw]; exact Bool.false_ne_true)))⟩⟩
  have isa_Late_Late : IsA K mg "Late" "Late" true := ⟨⟨C_Late, C_Late, cl_Late, ⟨qf_Late, qg, qh, qi_Late⟩, PySem.W.mg_of X G qa_Late, (kit_own qk_Late qj_Late qs_Late_Late (fun _ => rfl))⟩⟩
  have isa_Late_Let : IsA K mg "Late" "Let" false := ⟨⟨C_Late, C_Let, cl_Late, ⟨qf_Late, qg, qh, qi_Late⟩, PySem.W.mg_of X G qa_Let, (kit_own qk_Let qj_Let qs_Late_Let (fun h => absurd h (by rw [qz_Late_Let]; exact Bool.false_ne_true)))⟩⟩
  have isa_Late_Need : IsA K mg "Late" "Need" false := ⟨⟨C_Late, C_Need, cl_Late, ⟨qf_Late, qg, qh, qi_Late⟩, PySem.W.mg_of X G qa_Need, (kit_own qk_Need qj_Need qs_Late_Need (fun h => absurd h (by rw [qz_Late_Need]; exact Bool.false_ne_true)))⟩⟩
  have isa_Late_Row : IsA K mg "Late" "Row" true := ⟨⟨C_Late, C_Row, cl_Late, ⟨qf_Late, qg, qh, qi_Late⟩, PySem.W.mg_of X G qa_Row, (kit_own qk_Row qj_Row qs_Late_Row (fun _ => rfl))⟩⟩
  have isa_Late_Take : IsA K mg "Late" "Take" false := ⟨⟨C_Late, C_Take, cl_Late, ⟨qf_Late, qg, qh, qi_Late⟩, PySem.W.mg_of X G qa_Take, (kit_own qk_Take qj_Take qs_Late_Take (fun h => absurd h (by rw [qz_Late_Take]; exact Bool.false_ne_true)))⟩⟩
  have isa_Let_Deed : IsA K mg "Let" "Deed" false := ⟨⟨C_Let, C_Deed, cl_Let, ⟨qf_Let, qg, qh, qi_Let⟩, PySem.W.mg_of X G qa_Deed, (kit_own qk_Deed qj_Deed qs_Let_Deed (fun h => absurd h (by rw [qz_Let_Deed]; exact Bool.false_ne_true)))⟩⟩
  have isa_Let_Draw : IsA K mg "Let" "Draw" false := ⟨⟨C_Let, C_Draw, cl_Let, ⟨qf_Let, qg, qh, qi_Let⟩, PySem.W.mg_of X G qa_Draw, (kit_own qk_Draw qj_Draw qs_Let_Draw (fun h => absurd h (by rw [qz_Let_Draw]; exact Bool.false_ne_true)))⟩⟩
  have isa_Let_Late : IsA K mg "Let" "Late" false := ⟨⟨C_Let, C_Late, cl_Let, ⟨qf_Let, qg, qh, qi_Let⟩, PySem.W.mg_of X G qa_Late, (kit_own qk_Late qj_Late qs_Let_Late (fun h => absurd h (by rw [qz_Let_Late]; exact Bool.false_ne_true)))⟩⟩
  have isa_Let_Let : IsA K mg "Let" "Let" true := ⟨⟨C_Let, C_Let, cl_Let, ⟨qf_Let, qg, qh, qi_Let⟩, PySem.W.mg_of X G qa_Let, (kit_own qk_Let qj_Let qs_Let_Let (fun _ => rfl))⟩⟩
  have isa_Let_Need : IsA K mg "Let" "Need" false := ⟨⟨C_Let, C_Need, cl_Let, ⟨qf_Let, qg, qh, qi_Let⟩, PySem.W.mg_of X G qa_Need, (kit_own qk_Need qj_Need qs_Let_Need (fun h => absurd h (by rw [qz_Let_Need]; exact Bool.false_ne_true)))⟩⟩
  have isa_Let_Row : IsA K mg "Let" "Row" true := ⟨⟨C_Let, C_Row, cl_Let, ⟨qf_Let, qg, qh, qi_Let⟩, PySem.W.mg_of X G qa_Row, (kit_own qk_Row qj_Row qs_Let_Row (fun _ => rfl))⟩⟩
  have isa_Let_Take : IsA K mg "Let" "Take" false := ⟨⟨C_Let, C_Take, cl_Let, ⟨qf_Let, qg, qh, qi_Let⟩, PySem.W.mg_of X G qa_Take, (kit_own qk_Take qj_Take qs_Let_Take (fun h => absurd h (by rw [qz_Let_Take]; exact Bool.false_ne_true)))⟩⟩
  have isa_Need_Deed : IsA K mg "Need" "Deed" false := ⟨⟨C_Need, C_Deed, cl_Need, ⟨qf_Need, qg, qh, qi_Need⟩, PySem.W.mg_of X G qa_Deed, (kit_own qk_Deed qj_Deed qs_Need_Deed (fun h => absurd h (by rw [qz_Need_Deed]; exact Bool.false_ne_true)))⟩⟩
  have isa_Need_Draw : IsA K mg "Need" "Draw" false := ⟨⟨C_Need, C_Draw, cl_Need, ⟨qf_Need, qg, qh, qi_Need⟩, PySem.W.mg_of X G qa_Draw, (kit_own qk_Draw qj_Draw qs_Need_Draw (fun h => absurd h (by rw [qz_Need_Draw]; exact Bool.false_ne_true)))⟩⟩
  have isa_Need_Late : IsA K mg "Need" "Late" false := ⟨⟨C_Need, C_Late, cl_Need, ⟨qf_Need, qg, qh, qi_Need⟩, PySem.W.mg_of X G qa_Late, (kit_own qk_Late qj_Late qs_Need_Late (fun h => absurd h (by rw [qz_Need_Late]; exact Bool.false_ne_true)))⟩⟩
  have isa_Need_Let : IsA K mg "Need" "Let" false := ⟨⟨C_Need, C_Let, cl_Need, ⟨qf_Need, qg, qh, qi_Need⟩, PySem.W.mg_of X G qa_Let, (kit_own qk_Let qj_Let qs_Need_Let (fun h => absurd h (by rw [qz_Need_Let]; exact Bool.false_ne_true)))⟩⟩
  have isa_Need_Need : IsA K mg "Need" "Need" true := ⟨⟨C_Need, C_Need, cl_Need, ⟨qf_Need, qg, qh, qi_Need⟩, PySem.W.mg_of X G qa_Need, (kit_own qk_Need qj_Need qs_Need_Need (fun _ => rfl))⟩⟩
  have isa_Need_Row : IsA K mg "Need" "Row" true := ⟨⟨C_Need, C_Row, cl_Need, ⟨qf_Need, qg, qh, qi_Need⟩, PySem.W.mg_of X G qa_Row, (kit_own qk_Row qj_Row qs_Need_Row (fun _ => rfl))⟩⟩
  have isa_Need_Take : IsA K mg "Need" "Take" false := ⟨⟨C_Need, C_Take, cl_Need, ⟨qf_Need, qg, qh, qi_Need⟩, PySem.W.mg_of X G qa_Take, (kit_own qk_Take qj_Take qs_Need_Take (fun h => absurd h (by rw [qz_Need_Take]; exact Bool.false_ne_true)))⟩⟩
  have isa_Take_Deed : IsA K mg "Take" "Deed" false := ⟨⟨C_Take, C_Deed, cl_Take, ⟨qf_Take, qg, qh, qi_Take⟩, PySem.W.mg_of X G qa_Deed, (kit_own qk_Deed qj_Deed qs_Take_Deed (fun h => absurd h (by rw [qz_Take_Deed]; exact Bool.false_ne_true)))⟩⟩
  have isa_Take_Draw : IsA K mg "Take" "Draw" false := ⟨⟨C_Take, C_Draw, cl_Take, ⟨qf_Take, qg, qh, qi_Take⟩, PySem.W.mg_of X G qa_Draw, (kit_own qk_Draw qj_Draw qs_Take_Draw (fun h => absurd h (by rw [qz_Take_Draw]; exact Bool.false_ne_true)))⟩⟩
  have isa_Take_Late : IsA K mg "Take" "Late" false := ⟨⟨C_Take, C_Late, cl_Take, ⟨qf_Take, qg, qh, qi_Take⟩, PySem.W.mg_of X G qa_Late, (kit_own qk_Late qj_Late qs_Take_Late (fun h => absurd h (by rw [qz_Take_Late]; exact Bool.false_ne_true)))⟩⟩
  have isa_Take_Let : IsA K mg "Take" "Let" false := ⟨⟨C_Take, C_Let, cl_Take, ⟨qf_Take, qg, qh, qi_Take⟩, PySem.W.mg_of X G qa_Let, (kit_own qk_Let qj_Let qs_Take_Let (fun h => absurd h (by rw [qz_Take_Let]; exact Bool.false_ne_true)))⟩⟩
  have isa_Take_Need : IsA K mg "Take" "Need" false := ⟨⟨C_Take, C_Need, cl_Take, ⟨qf_Take, qg, qh, qi_Take⟩, PySem.W.mg_of X G qa_Need, (kit_own qk_Need qj_Need qs_Take_Need (fun h => absurd h (by rw [qz_Take_Need]; exact Bool.false_ne_true)))⟩⟩
  have isa_Take_Row : IsA K mg "Take" "Row" true := ⟨⟨C_Take, C_Row, cl_Take, ⟨qf_Take, qg, qh, qi_Take⟩, PySem.W.mg_of X G qa_Row, (kit_own qk_Row qj_Row qs_Take_Row (fun _ => rfl))⟩⟩
  have isa_Take_Take : IsA K mg "Take" "Take" true := ⟨⟨C_Take, C_Take, cl_Take, ⟨qf_Take, qg, qh, qi_Take⟩, PySem.W.mg_of X G qa_Take, (kit_own qk_Take qj_Take qs_Take_Take (fun _ => rfl))⟩⟩
  have x_NoExpr : ExC K mg "NoExpr" := ⟨⟨_, PySem.W.mg_of X G qa_NoExpr, qa_NoExpr, xb_NoExpr, kc_NoExpr, xd_NoExpr, qj_NoExpr⟩⟩
  have xm_HouseError : InitB K mg "HouseError" := ⟨⟨C_HouseError, _, PySem.W.mg_of X G qa_HouseError, rd_HouseError, sg_HouseError, fc_HouseError⟩⟩
  have xh_NoExpr : ExH K mg "NoExpr" isx_NoExpr := ⟨⟨.ref C_NoExpr, PySem.W.mg_of X G qa_NoExpr, (tab_cons qa_HouseError (PySem.W.exm_ref xd_NoExpr qc_NoExpr qj_NoExpr qs_HouseError_NoExpr) (tab_cons qa_NoExpr (PySem.W.exm_ref xd_NoExpr qc_NoExpr qj_NoExpr qs_NoExpr_NoExpr) (tab_cons qa_NoText (PySem.W.exm_ref xd_NoExpr qc_NoExpr qj_NoExpr qs_NoText_NoExpr) tab_nil)))⟩⟩
  have cx_NoText : ClsX K "NoText" C_NoText := ⟨qa_NoText, ⟨⟨_, _, _, _, _, _, _, _, _, _, _, _, _, _, _, lx_NoText, rx_NoText⟩, sa_NoText, xd_NoText, qj_NoText, kc_NoText⟩⟩
  have fx_NoText_at : FldX K "NoText" "at" := ⟨⟨C_NoText, cx_NoText, qn_NoText_at⟩⟩
  have F0 := fun_mk (st := s_NoText___init) l0 c0 k0
  have b0 := F0.binds (ps := ["self", "at"]) fun _ _ _ _ _ _ us hl => match us, hl with | [_, _], _ => rfl
  have F1 := fun_mk (st := s_is_name) l1 c1 k1
  have b1 := F1.binds (ps := ["thing"]) fun _ _ _ _ _ _ us hl => match us, hl with | [_], _ => rfl
  have F2 := fun_mk (st := s_are_names) l2 c2 k2
  have b2 := F2.binds (ps := ["words", "most"]) fun _ _ _ _ _ _ us hl => match us, hl with | [_, _], _ => rfl
  have F3 := fun_mk (st := s_is_address) l3 c3 k3
  have b3 := F3.binds (ps := ["thing"]) fun _ _ _ _ _ _ us hl => match us, hl with | [_], _ => rfl
  have F4 := fun_mk (st := s_is_written) l4 c4 k4
  have b4 := F4.binds (ps := ["word"]) fun _ _ _ _ _ _ us hl => match us, hl with | [_], _ => rfl
  have F5 := fun_mk (st := s_sign_of) l5 c5 k5
  have b5 := F5.binds (ps := ["word"]) fun _ _ _ _ _ _ us hl => match us, hl with | [_], _ => rfl
  have F6 := fun_mk (st := s_thing_of) l6 c6 k6
  have b6 := F6.binds (ps := ["word"]) fun _ _ _ _ _ _ us hl => match us, hl with | [_], _ => rfl
  have F7 := fun_mk (st := s_read_expr) l7 c7 k7
  have b7 := F7.binds (ps := ["text"]) fun _ _ _ _ _ _ us hl => match us, hl with | [_], _ => rfl
  have F8 := fun_mk (st := s_has_call) l8 c8 k8
  have b8 := F8.binds (ps := ["terms"]) fun _ _ _ _ _ _ us hl => match us, hl with | [_], _ => rfl
  have F9 := fun_mk (st := s_show_term) l9 c9 k9
  have b9 := F9.binds (ps := ["sort", "thing"]) fun _ _ _ _ _ _ us hl => match us, hl with | [_, _], _ => rfl
  have F10 := fun_mk (st := s_show_expr) l10 c10 k10
  have b10 := F10.binds (ps := ["terms"]) fun _ _ _ _ _ _ us hl => match us, hl with | [_], _ => rfl
  have F11 := fun_mk (st := s_Let___init) l11 c11 k11
  have b11 := F11.binds (ps := ["self", "name", "terms"]) fun _ _ _ _ _ _ us hl => match us, hl with | [_, _, _], _ => rfl
  have F12 := fun_mk (st := s_Deed___init) l12 c12 k12
  have b12 := F12.binds (ps := ["self", "name", "terms"]) fun _ _ _ _ _ _ us hl => match us, hl with | [_, _, _], _ => rfl
  have F13 := fun_mk (st := s_Draw___init) l13 c13 k13
  have b13 := F13.binds (ps := ["self", "address", "name"]) fun _ _ _ _ _ _ us hl => match us, hl with | [_, _, _], _ => rfl
  have F14 := fun_mk (st := s_Late___init) l14 c14 k14
  have b14 := F14.binds (ps := ["self", "address", "name"]) fun _ _ _ _ _ _ us hl => match us, hl with | [_, _, _], _ => rfl
  have F15 := fun_mk (st := s_Take___init) l15 c15 k15
  have b15 := F15.binds (ps := ["self", "word", "address", "name"]) fun _ _ _ _ _ _ us hl => match us, hl with | [_, _, _, _], _ => rfl
  have F16 := fun_mk (st := s_Need___init) l16 c16 k16
  have b16 := F16.binds (ps := ["self", "terms"]) fun _ _ _ _ _ _ us hl => match us, hl with | [_, _], _ => rfl
  have F17 := fun_mk (st := s_Let_binds) l17 c17 k17
  have b17 := F17.binds (ps := ["self"]) fun _ _ _ _ _ _ us hl => match us, hl with | [_], _ => rfl
  have F18 := fun_mk (st := s_Deed_binds) l18 c18 k18
  have b18 := F18.binds (ps := ["self"]) fun _ _ _ _ _ _ us hl => match us, hl with | [_], _ => rfl
  have F19 := fun_mk (st := s_Draw_binds) l19 c19 k19
  have b19 := F19.binds (ps := ["self"]) fun _ _ _ _ _ _ us hl => match us, hl with | [_], _ => rfl
  have F20 := fun_mk (st := s_Late_binds) l20 c20 k20
  have b20 := F20.binds (ps := ["self"]) fun _ _ _ _ _ _ us hl => match us, hl with | [_], _ => rfl
  have F21 := fun_mk (st := s_Take_binds) l21 c21 k21
  have b21 := F21.binds (ps := ["self"]) fun _ _ _ _ _ _ us hl => match us, hl with | [_], _ => rfl
  have F22 := fun_mk (st := s_Row_binds) l22 c22 k22
  have b22 := F22.binds (ps := ["self"]) fun _ _ _ _ _ _ us hl => match us, hl with | [_], _ => rfl
  have F23 := fun_mk (st := s_Row_asked) l23 c23 k23
  have b23 := F23.binds (ps := ["self"]) fun _ _ _ _ _ _ us hl => match us, hl with | [_], _ => rfl
  have F24 := fun_mk (st := s_Draw_asked) l24 c24 k24
  have b24 := F24.binds (ps := ["self"]) fun _ _ _ _ _ _ us hl => match us, hl with | [_], _ => rfl
  have F25 := fun_mk (st := s_Late_asked) l25 c25 k25
  have b25 := F25.binds (ps := ["self"]) fun _ _ _ _ _ _ us hl => match us, hl with | [_], _ => rfl
  have F26 := fun_mk (st := s_Take_asked) l26 c26 k26
  have b26 := F26.binds (ps := ["self"]) fun _ _ _ _ _ _ us hl => match us, hl with | [_], _ => rfl
  have F27 := fun_mk (st := s_Let_said) l27 c27 k27
  have b27 := F27.binds (ps := ["self"]) fun _ _ _ _ _ _ us hl => match us, hl with | [_], _ => rfl
  have F28 := fun_mk (st := s_Deed_said) l28 c28 k28
  have b28 := F28.binds (ps := ["self"]) fun _ _ _ _ _ _ us hl => match us, hl with | [_], _ => rfl
  have F29 := fun_mk (st := s_Draw_said) l29 c29 k29
  have b29 := F29.binds (ps := ["self"]) fun _ _ _ _ _ _ us hl => match us, hl with | [_], _ => rfl
  have F30 := fun_mk (st := s_Late_said) l30 c30 k30
  have b30 := F30.binds (ps := ["self"]) fun _ _ _ _ _ _ us hl => match us, hl with | [_], _ => rfl
  have F31 := fun_mk (st := s_Take_said) l31 c31 k31
  have b31 := F31.binds (ps := ["self"]) fun _ _ _ _ _ _ us hl => match us, hl with | [_], _ => rfl
  have F32 := fun_mk (st := s_Need_said) l32 c32 k32
  have b32 := F32.binds (ps := ["self"]) fun _ _ _ _ _ _ us hl => match us, hl with | [_], _ => rfl
  have F33 := fun_mk (st := s_held_row) l33 c33 k33
  have b33 := F33.binds (ps := ["words"]) fun _ _ _ _ _ _ us hl => match us, hl with | [_], _ => rfl
  have F34 := fun_mk (st := s_take_row) l34 c34 k34
  have b34 := F34.binds (ps := ["words"]) fun _ _ _ _ _ _ us hl => match us, hl with | [_], _ => rfl
  have F35 := fun_mk (st := s_told_row) l35 c35 k35
  have b35 := F35.binds (ps := ["words"]) fun _ _ _ _ _ _ us hl => match us, hl with | [_], _ => rfl
  have F36 := fun_mk (st := s_row_of) l36 c36 k36
  have b36 := F36.binds (ps := ["words"]) fun _ _ _ _ _ _ us hl => match us, hl with | [_], _ => rfl
  have F37 := fun_mk (st := s_read_row) l37 c37 k37
  have b37 := F37.binds (ps := ["text"]) fun _ _ _ _ _ _ us hl => match us, hl with | [_], _ => rfl
  have F38 := fun_mk (st := s_law_cell) l38 c38 k38
  have b38 := F38.binds (ps := ["_law_script", "_law_k"]) fun _ _ _ _ _ _ us hl => match us, hl with | [_, _], _ => rfl
  have F39 := fun_mk (st := s_law_sub) l39 c39 k39
  have b39 := F39.binds (ps := ["_law_cell_here", "_law_j"]) fun _ _ _ _ _ _ us hl => match us, hl with | [_, _], _ => rfl
  have F40 := fun_mk (st := s_law_pick) l40 c40 k40
  have b40 := F40.binds (ps := ["_law_cell_here", "_law_k", "_law_many"]) fun _ _ _ _ _ _ us hl => match us, hl with | [_, _, _], _ => rfl
  have F41 := fun_mk (st := s_law_number) l41 c41 k41
  have b41 := F41.binds (ps := ["_law_cell_here", "_law_far"]) fun _ _ _ _ _ _ us hl => match us, hl with | [_, _], _ => rfl
  have F42 := fun_mk (st := s_law_name) l42 c42 k42
  have b42 := F42.binds (ps := ["_law_cell_here"]) fun _ _ _ _ _ _ us hl => match us, hl with | [_], _ => rfl
  have F43 := fun_mk (st := s_law_label) l43 c43 k43
  have b43 := F43.binds (ps := ["_law_cell_here"]) fun _ _ _ _ _ _ us hl => match us, hl with | [_], _ => rfl
  have F44 := fun_mk (st := s_law_address) l44 c44 k44
  have b44 := F44.binds (ps := ["_law_cell_here"]) fun _ _ _ _ _ _ us hl => match us, hl with | [_], _ => rfl
  have F45 := fun_mk (st := s_law_term) l45 c45 k45
  have b45 := F45.binds (ps := ["_law_cell_here", "_law_first"]) fun _ _ _ _ _ _ us hl => match us, hl with | [_, _], _ => rfl
  have F46 := fun_mk (st := s_law_terms) l46 c46 k46
  have b46 := F46.binds (ps := ["_law_cell_here"]) fun _ _ _ _ _ _ us hl => match us, hl with | [_], _ => rfl
  have F47 := fun_mk (st := s_law_word) l47 c47 k47
  have b47 := F47.binds (ps := ["_law_term_here"]) fun _ _ _ _ _ _ us hl => match us, hl with | [_], _ => rfl
  have F48 := fun_mk (st := s_law_text) l48 c48 k48
  have b48 := F48.binds (ps := ["_law_terms_here"]) fun _ _ _ _ _ _ us hl => match us, hl with | [_], _ => rfl
  have F49 := fun_mk (st := s_law_row) l49 c49 k49
  have b49 := F49.binds (ps := ["_law_cell_here", "_law_name_here"]) fun _ _ _ _ _ _ us hl => match us, hl with | [_, _], _ => rfl
  have F50 := fun_mk (st := s_law_said) l50 c50 k50
  have b50 := F50.binds (ps := ["_law_row_here"]) fun _ _ _ _ _ _ us hl => match us, hl with | [_], _ => rfl
  have F51 := fun_mk (st := s_law_whole) l51 c51 k51
  have b51 := F51.binds (ps := ["_law_found"]) fun _ _ _ _ _ _ us hl => match us, hl with | [_], _ => rfl
  have F52 := fun_mk (st := s_law_term_is) l52 c52 k52
  have b52 := F52.binds (ps := ["_law_found", "_law_due"]) fun _ _ _ _ _ _ us hl => match us, hl with | [_, _], _ => rfl
  have F53 := fun_mk (st := s_law_terms_are) l53 c53 k53
  have b53 := F53.binds (ps := ["_law_found", "_law_due"]) fun _ _ _ _ _ _ us hl => match us, hl with | [_, _], _ => rfl
  have F54 := fun_mk (st := s_law_says) l54 c54 k54
  have b54 := F54.binds (ps := ["_law_found", "_law_row_here"]) fun _ _ _ _ _ _ us hl => match us, hl with | [_, _], _ => rfl
  have F55 := fun_mk (st := s_law_is) l55 c55 k55
  have b55 := F55.binds (ps := ["_law_found", "_law_row_here"]) fun _ _ _ _ _ _ us hl => match us, hl with | [_, _], _ => rfl
  have F56 := fun_mk (st := s_law) l56 c56 k56
  have b56 := F56.binds (ps := ["_law_script"]) fun _ _ _ _ _ _ us hl => match us, hl with | [_], _ => rfl
  have m_all := PySem.W.mg_none_of X G z_all
  have m_bool := PySem.W.mg_none_of X G z_bool
  have m_int := PySem.W.mg_none_of X G z_int
  have m_isinstance := PySem.W.mg_none_of X G z_isinstance
  have m_len := PySem.W.mg_none_of X G z_len
  have m_list := PySem.W.mg_none_of X G z_list
  have m_max := PySem.W.mg_none_of X G z_max
  have m_min := PySem.W.mg_none_of X G z_min
  have m_range := PySem.W.mg_none_of X G z_range
  have m_str := PySem.W.mg_none_of X G z_str
  have m_tuple := PySem.W.mg_none_of X G z_tuple
  have m_zip := PySem.W.mg_none_of X G z_zip
  have c_DEEPEST : ∃ t, mg "DEEPEST" = some (.int (3 : Int) t) := ⟨_, PySem.W.mg_of X G g_DEEPEST⟩
  have c_FIGURES : ∃ t, mg "FIGURES" = some (.str (S FIGURES) t) := ⟨_, PySem.W.mg_of X G g_FIGURES⟩
  have c_LETTERS : ∃ t, mg "LETTERS" = some (.str (S LETTERS) t) := ⟨_, PySem.W.mg_of X G g_LETTERS⟩
  have c_LONGEST : ∃ t, mg "LONGEST" = some (.int (8 : Int) t) := ⟨_, PySem.W.mg_of X G g_LONGEST⟩
  have c_MOST_FIGURES : ∃ t, mg "MOST_FIGURES" = some (.int (20 : Int) t) := ⟨_, PySem.W.mg_of X G g_MOST_FIGURES⟩
  have c_MOST_NAMES : ∃ t, mg "MOST_NAMES" = some (.int (4 : Int) t) := ⟨_, PySem.W.mg_of X G g_MOST_NAMES⟩
  have c_MOST_TERMS : ∃ t, mg "MOST_TERMS" = some (.int (6 : Int) t) := ⟨_, PySem.W.mg_of X G g_MOST_TERMS⟩
  refine ⟨PySem.W.fnOf "law" "law" (defArgs s_law) (defBody s_law) (defScope s_law) .none kV56 dc56 pm56 an56 cd56 ct56, fun s u => .of_eq rfl, fun base _ _ => ?_⟩
  have kn_NoText_init : MkrX P w K mg base "NoText" 1 (sp_NoText_init K) := ⟨⟨C_NoText, _, _, _, PySem.W.mg_of X G qa_NoText, cx_NoText, m0_NoText, tf0, ok_NoText_init F0 fx_NoText_at xm_HouseError, b0⟩⟩
  have kn_is_name : Kn P w K mg base "is_name" 1 (sp_is_name K) := ⟨⟨_, _, _, ok_is_name F1 c_LETTERS c_LONGEST m_isinstance m_len m_str, PySem.W.mg_of X G a1, k1, b1⟩⟩
  have kn_are_names : Kn P w K mg base "are_names" 2 (sp_are_names K) := ⟨⟨_, _, _, ok_are_names F2 m_len kn_is_name, PySem.W.mg_of X G a2, k2, b2⟩⟩
  have kn_is_address : Kn P w K mg base "is_address" 3 (sp_is_address K) := ⟨⟨_, _, _, ok_is_address F3 c_DEEPEST m_isinstance m_str kn_are_names, PySem.W.mg_of X G a3, k3, b3⟩⟩
  have kn_is_written : Kn P w K mg base "is_written" 1 (sp_is_written K) := ⟨⟨_, _, _, ok_is_written F4 c_FIGURES c_MOST_FIGURES m_len, PySem.W.mg_of X G a4, k4, b4⟩⟩
  have kn_sign_of : Kn P w K mg base "sign_of" 1 (sp_sign_of K) := ⟨⟨_, _, _, ok_sign_of F5 x_NoExpr, PySem.W.mg_of X G a5, k5, b5⟩⟩
  have kn_thing_of : Kn P w K mg base "thing_of" 3 (sp_thing_of K) := ⟨⟨_, _, _, ok_thing_of F6 c_MOST_NAMES x_NoExpr m_int m_tuple kn_are_names kn_is_written, PySem.W.mg_of X G a6, k6, b6⟩⟩
  have kn_read_expr : Kn P w K mg base "read_expr" 4 (sp_read_expr K) := ⟨⟨_, _, _, ok_read_expr F7 c_MOST_TERMS x_NoExpr m_isinstance m_len m_range m_str kn_sign_of kn_thing_of, PySem.W.mg_of X G a7, k7, b7⟩⟩
  have kn_has_call : Kn P w K mg base "has_call" 1 (sp_has_call K) := ⟨⟨_, _, _, ok_has_call F8, PySem.W.mg_of X G a8, k8, b8⟩⟩
  have kn_show_term : Kn P w K mg base "show_term" 1 (sp_show_term K) := ⟨⟨_, _, _, ok_show_term F9 m_str, PySem.W.mg_of X G a9, k9, b9⟩⟩
  have kn_show_expr : Kn P w K mg base "show_expr" 2 (sp_show_expr K) := ⟨⟨_, _, _, ok_show_expr F10 kn_show_term, PySem.W.mg_of X G a10, k10, b10⟩⟩
  have kn_Let_init : Mkr P w K mg base "Let" 1 (sp_Let_init K) := ⟨⟨C_Let, _, _, _, PySem.W.mg_of X G qa_Let, cl_Let, ⟨qm_Let, m11_Let, fn11, kc_Let⟩, ok_Let_init F11 m_list fa_Let_name fa_Let_terms, b11⟩⟩
  have kn_Deed_init : Mkr P w K mg base "Deed" 1 (sp_Deed_init K) := ⟨⟨C_Deed, _, _, _, PySem.W.mg_of X G qa_Deed, cl_Deed, ⟨qm_Deed, m12_Deed, fn12, kc_Deed⟩, ok_Deed_init F12 m_list fa_Deed_name fa_Deed_terms, b12⟩⟩
  have kn_Draw_init : Mkr P w K mg base "Draw" 1 (sp_Draw_init K) := ⟨⟨C_Draw, _, _, _, PySem.W.mg_of X G qa_Draw, cl_Draw, ⟨qm_Draw, m13_Draw, fn13, kc_Draw⟩, ok_Draw_init F13 fa_Draw_address fa_Draw_name, b13⟩⟩
  have kn_Late_init : Mkr P w K mg base "Late" 1 (sp_Late_init K) := ⟨⟨C_Late, _, _, _, PySem.W.mg_of X G qa_Late, cl_Late, ⟨qm_Late, m14_Late, fn14, kc_Late⟩, ok_Late_init F14 fa_Late_address fa_Late_name, b14⟩⟩
  have kn_Take_init : Mkr P w K mg base "Take" 1 (sp_Take_init K) := ⟨⟨C_Take, _, _, _, PySem.W.mg_of X G qa_Take, cl_Take, ⟨qm_Take, m15_Take, fn15, kc_Take⟩, ok_Take_init F15 fa_Take_address fa_Take_name fa_Take_word, b15⟩⟩
  have kn_Need_init : Mkr P w K mg base "Need" 1 (sp_Need_init K) := ⟨⟨C_Need, _, _, _, PySem.W.mg_of X G qa_Need, cl_Need, ⟨qm_Need, m16_Need, fn16, kc_Need⟩, ok_Need_init F16 m_list fa_Need_terms, b16⟩⟩
  have kn_Let_binds : Mth P w K mg base "Let" "binds" 1 (sp_Let_binds K) := ⟨⟨C_Let, _, _, _, cl_Let, ⟨m17_Let, fn17, k17⟩, ok_Let_binds F17 fa_Let_name, b17⟩⟩
  have kn_Deed_binds : Mth P w K mg base "Deed" "binds" 1 (sp_Deed_binds K) := ⟨⟨C_Deed, _, _, _, cl_Deed, ⟨m18_Deed, fn18, k18⟩, ok_Deed_binds F18 fa_Deed_name, b18⟩⟩
  have kn_Draw_binds : Mth P w K mg base "Draw" "binds" 1 (sp_Draw_binds K) := ⟨⟨C_Draw, _, _, _, cl_Draw, ⟨m19_Draw, fn19, k19⟩, ok_Draw_binds F19 fa_Draw_name, b19⟩⟩
  have kn_Late_binds : Mth P w K mg base "Late" "binds" 1 (sp_Late_binds K) := ⟨⟨C_Late, _, _, _, cl_Late, ⟨m20_Late, fn20, k20⟩, ok_Late_binds F20 fa_Late_name, b20⟩⟩
  have kn_Take_binds : Mth P w K mg base "Take" "binds" 1 (sp_Take_binds K) := ⟨⟨C_Take, _, _, _, cl_Take, ⟨m21_Take, fn21, k21⟩, ok_Take_binds F21 fa_Take_name, b21⟩⟩
  have kn_Need_binds : Mth P w K mg base "Need" "binds" 1 (sp_Need_binds K) := ⟨⟨C_Need, _, _, _, cl_Need, ⟨m22_Need, fn22, k22⟩, ok_Need_binds F22, b22⟩⟩
  have kn_Let_asked : Mth P w K mg base "Let" "asked" 1 (sp_Let_asked K) := ⟨⟨C_Let, _, _, _, cl_Let, ⟨m23_Let, fn23, k23⟩, ok_Let_asked F23, b23⟩⟩
  have kn_Deed_asked : Mth P w K mg base "Deed" "asked" 1 (sp_Deed_asked K) := ⟨⟨C_Deed, _, _, _, cl_Deed, ⟨m23_Deed, fn23, k23⟩, ok_Deed_asked F23, b23⟩⟩
  have kn_Draw_asked : Mth P w K mg base "Draw" "asked" 1 (sp_Draw_asked K) := ⟨⟨C_Draw, _, _, _, cl_Draw, ⟨m24_Draw, fn24, k24⟩, ok_Draw_asked F24 fa_Draw_address, b24⟩⟩
  have kn_Late_asked : Mth P w K mg base "Late" "asked" 1 (sp_Late_asked K) := ⟨⟨C_Late, _, _, _, cl_Late, ⟨m25_Late, fn25, k25⟩, ok_Late_asked F25 fa_Late_address, b25⟩⟩
  have kn_Take_asked : Mth P w K mg base "Take" "asked" 1 (sp_Take_asked K) := ⟨⟨C_Take, _, _, _, cl_Take, ⟨m26_Take, fn26, k26⟩, ok_Take_asked F26 fa_Take_address, b26⟩⟩
  have kn_Need_asked : Mth P w K mg base "Need" "asked" 1 (sp_Need_asked K) := ⟨⟨C_Need, _, _, _, cl_Need, ⟨m23_Need, fn23, k23⟩, ok_Need_asked F23, b23⟩⟩
  have kn_Let_said : Mth P w K mg base "Let" "said" 3 (sp_Let_said K) := ⟨⟨C_Let, _, _, _, cl_Let, ⟨m27_Let, fn27, k27⟩, ok_Let_said F27 kn_show_expr fa_Let_name fa_Let_terms, b27⟩⟩
  have kn_Deed_said : Mth P w K mg base "Deed" "said" 3 (sp_Deed_said K) := ⟨⟨C_Deed, _, _, _, cl_Deed, ⟨m28_Deed, fn28, k28⟩, ok_Deed_said F28 kn_show_expr fa_Deed_name fa_Deed_terms, b28⟩⟩
  have kn_Draw_said : Mth P w K mg base "Draw" "said" 1 (sp_Draw_said K) := ⟨⟨C_Draw, _, _, _, cl_Draw, ⟨m29_Draw, fn29, k29⟩, ok_Draw_said F29 fa_Draw_address fa_Draw_name, b29⟩⟩
  have kn_Late_said : Mth P w K mg base "Late" "said" 1 (sp_Late_said K) := ⟨⟨C_Late, _, _, _, cl_Late, ⟨m30_Late, fn30, k30⟩, ok_Late_said F30 fa_Late_address fa_Late_name, b30⟩⟩
  have kn_Take_said : Mth P w K mg base "Take" "said" 1 (sp_Take_said K) := ⟨⟨C_Take, _, _, _, cl_Take, ⟨m31_Take, fn31, k31⟩, ok_Take_said F31 fa_Take_address fa_Take_name fa_Take_word, b31⟩⟩
  have kn_Need_said : Mth P w K mg base "Need" "said" 3 (sp_Need_said K) := ⟨⟨C_Need, _, _, _, cl_Need, ⟨m32_Need, fn32, k32⟩, ok_Need_said F32 kn_show_expr fa_Need_terms, b32⟩⟩
  have kn_held_row : Kn P w K mg base "held_row" 4 (sp_held_row K) := ⟨⟨_, _, _, ok_held_row F33 m_len kn_Draw_init kn_Late_init kn_is_address kn_is_name, PySem.W.mg_of X G a33, k33, b33⟩⟩
  have kn_take_row : Kn P w K mg base "take_row" 4 (sp_take_row K) := ⟨⟨_, _, _, ok_take_row F34 m_len kn_Take_init kn_is_address kn_is_name, PySem.W.mg_of X G a34, k34, b34⟩⟩
  have kn_told_row : Kn P w K mg base "told_row" 5 (sp_told_row K) := ⟨⟨_, _, _, ok_told_row F35 m_len kn_Deed_init kn_Let_init kn_has_call kn_is_name kn_read_expr, PySem.W.mg_of X G a35, k35, b35⟩⟩
  have kn_row_of : Kn P w K mg base "row_of" 6 (sp_row_of K) := ⟨⟨_, _, _, ok_row_of F36 kn_Need_init kn_held_row kn_read_expr kn_take_row kn_told_row, PySem.W.mg_of X G a36, k36, b36⟩⟩
  have kn_read_row : Kn P w K mg base "read_row" 7 (sp_read_row K) := ⟨⟨_, _, _, ok_read_row F37 m_isinstance m_str kn_NoText_init kn_row_of xh_NoExpr, PySem.W.mg_of X G a37, k37, b37⟩⟩
  have kn_cell : Kn P w K mg base "_law_cell" 1 (sp_cell K) := ⟨⟨_, _, _, ok_cell F38 m_len, PySem.W.mg_of X G a38, k38, b38⟩⟩
  have kn_sub : Kn P w K mg base "_law_sub" 1 (sp_sub K) := ⟨⟨_, _, _, ok_sub F39, PySem.W.mg_of X G a39, k39, b39⟩⟩
  have kn_pick : Kn P w K mg base "_law_pick" 1 (sp_pick K) := ⟨⟨_, _, _, ok_pick F40, PySem.W.mg_of X G a40, k40, b40⟩⟩
  have kn_number : Kn P w K mg base "_law_number" 1 (sp_number K) := ⟨⟨_, _, _, ok_number F41, PySem.W.mg_of X G a41, k41, b41⟩⟩
  have kn_name : Kn P w K mg base "_law_name" 2 (sp_name K) := ⟨⟨_, _, _, ok_name F42 m_range kn_pick, PySem.W.mg_of X G a42, k42, b42⟩⟩
  have kn_label : Kn P w K mg base "_law_label" 3 (sp_label K) := ⟨⟨_, _, _, ok_label F43 kn_name kn_pick, PySem.W.mg_of X G a43, k43, b43⟩⟩
  have kn_address : Kn P w K mg base "_law_address" 4 (sp_address K) := ⟨⟨_, _, _, ok_address F44 m_range kn_label kn_pick kn_sub, PySem.W.mg_of X G a44, k44, b44⟩⟩
  have kn_term : Kn P w K mg base "_law_term" 4 (sp_term K) := ⟨⟨_, _, _, ok_term F45 m_int m_range m_tuple kn_label kn_number kn_pick kn_sub, PySem.W.mg_of X G a45, k45, b45⟩⟩
  have kn_terms : Kn P w K mg base "_law_terms" 5 (sp_terms K) := ⟨⟨_, _, _, ok_terms F46 m_range kn_pick kn_sub kn_term, PySem.W.mg_of X G a46, k46, b46⟩⟩
  have kn_word : Kn P w K mg base "_law_word" 1 (sp_word K) := ⟨⟨_, _, _, ok_word F47 m_int m_str, PySem.W.mg_of X G a47, k47, b47⟩⟩
  have kn_text : Kn P w K mg base "_law_text" 2 (sp_text K) := ⟨⟨_, _, _, ok_text F48 m_int kn_word, PySem.W.mg_of X G a48, k48, b48⟩⟩
  have kn_row : Kn P w K mg base "_law_row" 6 (sp_row K) := ⟨⟨_, _, _, ok_row F49 m_int kn_address kn_label kn_pick kn_sub kn_terms, PySem.W.mg_of X G a49, k49, b49⟩⟩
  have kn_lsaid : Kn P w K mg base "_law_said" 3 (sp_lsaid K) := ⟨⟨_, _, _, ok_lsaid F50 kn_text, PySem.W.mg_of X G a50, k50, b50⟩⟩
  have kn_whole : Kn P w K mg base "_law_whole" 1 (sp_whole K) := ⟨⟨_, _, _, ok_whole F51 m_bool m_int m_isinstance, PySem.W.mg_of X G a51, k51, b51⟩⟩
  have kn_term_is : Kn P w K mg base "_law_term_is" 2 (sp_term_is K) := ⟨⟨_, _, _, ok_term_is F52 m_isinstance m_len m_str m_tuple kn_whole, PySem.W.mg_of X G a52, k52, b52⟩⟩
  have kn_terms_are : Kn P w K mg base "_law_terms_are" 3 (sp_terms_are K) := ⟨⟨_, _, _, ok_terms_are F53 m_all m_isinstance m_len m_list m_zip kn_term_is, PySem.W.mg_of X G a53, k53, b53⟩⟩
  have kn_says : Kn P w K mg base "_law_says" 4 (sp_says K) := ⟨⟨_, _, _, ok_says F54 m_int m_isinstance m_list m_str kn_Deed_asked kn_Deed_binds kn_Deed_said kn_Draw_asked kn_Draw_binds kn_Draw_said kn_Late_asked kn_Late_binds kn_Late_said kn_Let_asked kn_Let_binds kn_Let_said kn_Need_asked kn_Need_binds kn_Need_said kn_Take_asked kn_Take_binds kn_Take_said kn_lsaid, PySem.W.mg_of X G a54, k54, b54⟩⟩
  have kn_is : Kn P w K mg base "_law_is" 5 (sp_is K) := ⟨⟨_, _, _, ok_is F55 m_isinstance m_str kn_says kn_terms_are fa_Deed_name fa_Deed_terms fa_Draw_address fa_Draw_name fa_Late_address fa_Late_name fa_Let_name fa_Let_terms fa_Need_terms fa_Take_address fa_Take_name fa_Take_word isa_Deed_Deed isa_Deed_Draw isa_Deed_Late isa_Deed_Let isa_Deed_Need isa_Deed_Row isa_Deed_Take isa_Draw_Deed isa_Draw_Draw isa_Draw_Late isa_Draw_Let isa_Draw_Need isa_Draw_Row isa_Draw_Take isa_Late_Deed isa_Late_Draw isa_Late_Late isa_Late_Let isa_Late_Need isa_Late_Row isa_Late_Take isa_Let_Deed isa_Let_Draw isa_Let_Late isa_Let_Let isa_Let_Need isa_Let_Row isa_Let_Take isa_Need_Deed isa_Need_Draw isa_Need_Late isa_Need_Let isa_Need_Need isa_Need_Row isa_Need_Take isa_Take_Deed isa_Take_Draw isa_Take_Late isa_Take_Let isa_Take_Need isa_Take_Row isa_Take_Take, PySem.W.mg_of X G a55, k55, b55⟩⟩
  exact ok_law F56 m_len m_max m_min m_range kn_cell kn_is kn_label kn_lsaid kn_read_row kn_row kn_sub
theorem walk {l : PySem.W.OpenLaw} {q : Program} {loose : List Str} {XP : (Str → Option Value) → Heap → Prop} {YP : World → Heap → Prop} {d : DefRec} {K : Params → PySem.W.Frag} (hn : l.most = some 63) (hdf : d.params.defaults = [])
    (hY : ∀ (w : World) (h : Heap), YP w h → (K w.params).In h)
    (F : ∀ (w : World) (mg : Str → Option Value) (fa : Addr) (h : Heap), (K w.params).In h → h.Ns mainGlobals mg → mg d.name = some (.ref fa) →
      ∃ fd : FuncData, (∀ (s : Shared) (u : Value), BindsTo s fd ⟨[u], []⟩ [("_law_script", u)]) ∧ ∀ base : Heap, (K w.params).In base → base.Ns mainGlobals mg → FnOk l.prog w (K w.params) mg base (L2.CX l.prog w) 8 fa fd ["_law_script"] (sp_law (K w.params))) :
    PySem.W.WalkO q loose XP YP l.row.toRowW d [] (fun f vs => PySem.call f vs) :=
  L2.walk_of (n := 63) (k := 8) (x := "_law_script") (CX := fun w => L2.CX l.prog w) (sp := fun w => sp_law (K w.params)) hn (by decide) hdf ⟨rfl, by decide, by decide⟩ hY F (fun w H a ns hl _ hS => ⟨ns, H, fun _ _ h => h, .d (.scr hS) .nil, trivial, by
    show PostR _ _ _ _ _ (rsOf _ (lawF ns))
    rw [law_true ns hl]
    exact fun v G' H' _ hi => by
      cases hi
      rfl⟩) fun w H s e s' z => by
      obtain ⟨_, _, _, _, _, _, _, _, _, _, _, _, z⟩ := z
      exact z
end LawP
open PySem PySem.W PyProof.Rows in
set_option maxRecDepth 100000 in
set_option maxHeartbeats 0 in
theorem PySem.Challenge.cw_drawhouse_k21_rows_read_holds : PySem.Challenge.rw_drawhouse_k21_rows_read.Holds := by
  w_on; o_law; k_head; (case hw => w_witness2)
  k_fill
  refine LawP.walk (l := PySem.Challenge.rw_drawhouse_k21_rows_read) rfl rfl (fun w h Y => PySem.W.kIn_of Y) ?F
  case F =>
    intro w mg fa h KX G hmg
    refine' LawP.all_mk KX G hmg ?qa_NoText ?m0_NoText ?tf0 ?l0 ?c0 ?k0 ?a1 ?l1 ?c1 ?k1 ?a2 ?l2 ?c2 ?k2 ?a3 ?l3 ?c3 ?k3 ?a4 ?l4 ?c4 ?k4 ?a5 ?l5 ?c5 ?k5 ?a6 ?l6 ?c6 ?k6 ?a7 ?l7 ?c7 ?k7 ?a8 ?l8 ?c8 ?k8 ?a9 ?l9 ?c9 ?k9 ?a10 ?l10 ?c10 ?k10 ?qa_Let ?m11_Let ?fn11 ?l11 ?c11 ?k11 ?qa_Deed ?m12_Deed ?fn12 ?l12 ?c12 ?k12 ?qa_Draw ?m13_Draw ?fn13 ?l13 ?c13 ?k13 ?qa_Late ?m14_Late ?fn14 ?l14 ?c14 ?k14 ?qa_Take ?m15_Take ?fn15 ?l15 ?c15 ?k15 ?qa_Need ?m16_Need ?fn16 ?l16 ?c16 ?k16 ?m17_Let ?fn17 ?l17 ?c17 ?k17 ?m18_Deed ?fn18 ?l18 ?c18 ?k18 ?m19_Draw ?fn19 ?l19 ?c19 ?k19 ?m20_Late ?fn20 ?l20 ?c20 ?k20 ?m21_Take ?fn21 ?l21 ?c21 ?k21 ?m22_Need ?fn22 ?l22 ?c22 ?k22 ?m23_Let ?fn23 ?m23_Deed ?m23_Need ?l23 ?c23 ?k23 ?m24_Draw ?fn24 ?l24 ?c24 ?k24 ?m25_Late ?fn25 ?l25 ?c25 ?k25 ?m26_Take ?fn26 ?l26 ?c26 ?k26 ?m27_Let ?fn27 ?l27 ?c27 ?k27 ?m28_Deed ?fn28 ?l28 ?c28 ?k28 ?m29_Draw ?fn29 ?l29 ?c29 ?k29 ?m30_Late ?fn30 ?l30 ?c30 ?k30 ?m31_Take ?fn31 ?l31 ?c31 ?k31 ?m32_Need ?fn32 ?l32 ?c32 ?k32 ?a33 ?l33 ?c33 ?k33 ?a34 ?l34 ?c34 ?k34 ?a35 ?l35 ?c35 ?k35 ?a36 ?l36 ?c36 ?k36 ?a37 ?l37 ?c37 ?k37 ?a38 ?l38 ?c38 ?k38 ?a39 ?l39 ?c39 ?k39 ?a40 ?l40 ?c40 ?k40 ?a41 ?l41 ?c41 ?k41 ?a42 ?l42 ?c42 ?k42 ?a43 ?l43 ?c43 ?k43 ?a44 ?l44 ?c44 ?k44 ?a45 ?l45 ?c45 ?k45 ?a46 ?l46 ?c46 ?k46 ?a47 ?l47 ?c47 ?k47 ?a48 ?l48 ?c48 ?k48 ?a49 ?l49 ?c49 ?k49 ?a50 ?l50 ?c50 ?k50 ?a51 ?l51 ?c51 ?k51 ?a52 ?l52 ?c52 ?k52 ?a53 ?l53 ?c53 ?k53 ?a54 ?l54 ?c54 ?k54 ?a55 ?l55 ?c55 ?k55 ?a56 ?l56 ?c56 ?k56 ?qb_Deed ?qc_Deed ?qd_Deed ?qe_Deed ?qn_Deed_name ?qn_Deed_terms ?qb_Draw ?qc_Draw ?qd_Draw ?qe_Draw ?qn_Draw_address ?qn_Draw_name ?qb_Late ?qc_Late ?qd_Late ?qe_Late ?qn_Late_address ?qn_Late_name ?qb_Let ?qc_Let ?qd_Let ?qe_Let ?qn_Let_name ?qn_Let_terms ?qb_Need ?qc_Need ?qd_Need ?qe_Need ?qn_Need_terms ?qb_Take ?qc_Take ?qd_Take ?qe_Take ?qn_Take_address ?qn_Take_name ?qn_Take_word ?qk_Deed ?qj_Deed ?qs_Deed_Deed ?qf_Deed ?qg ?qh ?qi_Deed ?qz_Deed_Draw ?qk_Draw ?qj_Draw ?qs_Deed_Draw ?qz_Deed_Late ?qk_Late ?qj_Late ?qs_Deed_Late ?qz_Deed_Let ?qk_Let ?qj_Let ?qs_Deed_Let ?qz_Deed_Need ?qk_Need ?qj_Need ?qs_Deed_Need ?qa_Row ?qk_Row ?qj_Row ?qs_Deed_Row ?qz_Deed_Take ?qk_Take ?qj_Take ?qs_Deed_Take ?qz_Draw_Deed ?qs_Draw_Deed ?qf_Draw ?qi_Draw ?qs_Draw_Draw ?qz_Draw_Late ?qs_Draw_Late ?qz_Draw_Let ?qs_Draw_Let ?qz_Draw_Need ?qs_Draw_Need ?qs_Draw_Row ?qz_Draw_Take ?qs_Draw_Take ?qz_Late_Deed ?qs_Late_Deed ?qf_Late ?qi_Late ?qz_Late_Draw ?qs_Late_Draw ?qs_Late_Late ?qz_Late_Let ?qs_Late_Let ?qz_Late_Need ?qs_Late_Need ?qs_Late_Row ?qz_Late_Take ?qs_Late_Take ?qz_Let_Deed ?qs_Let_Deed ?qf_Let ?qi_Let ?qz_Let_Draw ?qs_Let_Draw ?qz_Let_Late ?qs_Let_Late ?qs_Let_Let ?qz_Let_Need ?qs_Let_Need ?qs_Let_Row ?qz_Let_Take ?qs_Let_Take ?qz_Need_Deed ?qs_Need_Deed ?qf_Need ?qi_Need ?qz_Need_Draw ?qs_Need_Draw ?qz_Need_Late ?qs_Need_Late ?qz_Need_Let ?qs_Need_Let ?qs_Need_Need ?qs_Need_Row ?qz_Need_Take ?qs_Need_Take ?qz_Take_Deed ?qs_Take_Deed ?qf_Take ?qi_Take ?qz_Take_Draw ?qs_Take_Draw ?qz_Take_Late ?qs_Take_Late ?qz_Take_Let ?qs_Take_Let ?qz_Take_Need ?qs_Take_Need ?qs_Take_Row ?qs_Take_Take ?qa_NoExpr ?xb_NoExpr ?kc_NoExpr ?xd_NoExpr ?qj_NoExpr ?qa_HouseError ?rd_HouseError ?sg_HouseError ?fc_HouseError ?qc_NoExpr ?qs_NoText_NoExpr ?qs_NoExpr_NoExpr ?qs_HouseError_NoExpr ?lx_NoText ?rx_NoText ?sa_NoText ?xd_NoText ?qj_NoText ?kc_NoText ?qn_NoText_at ?qm_Let ?kc_Let ?qm_Deed ?kc_Deed ?qm_Draw ?kc_Draw ?qm_Late ?kc_Late ?qm_Take ?kc_Take ?qm_Need ?kc_Need ?z_all ?z_bool ?z_int ?z_isinstance ?z_len ?z_list ?z_max ?z_min ?z_range ?z_str ?z_tuple ?z_zip ?g_DEEPEST ?g_FIGURES ?g_LETTERS ?g_LONGEST ?g_MOST_FIGURES ?g_MOST_NAMES ?g_MOST_TERMS
    (case qa_NoText => k_is)
    (case m0_NoText => k_is)
    (case tf0 => k_is)
    (case l0 => k_is)
    (case c0 => k_is)
    (case k0 => k_is)
    (case a1 => k_is)
    (case l1 => k_is)
    (case c1 => k_is)
    (case k1 => k_is)
    (case a2 => k_is)
    (case l2 => k_is)
    (case c2 => k_is)
    (case k2 => k_is)
    (case a3 => k_is)
    (case l3 => k_is)
    (case c3 => k_is)
    (case k3 => k_is)
    (case a4 => k_is)
    (case l4 => k_is)
    (case c4 => k_is)
    (case k4 => k_is)
    (case a5 => k_is)
    (case l5 => k_is)
    (case c5 => k_is)
    (case k5 => k_is)
    (case a6 => k_is)
    (case l6 => k_is)
    (case c6 => k_is)
    (case k6 => k_is)
    (case a7 => k_is)
    (case l7 => k_is)
    (case c7 => k_is)
    (case k7 => k_is)
    (case a8 => k_is)
    (case l8 => k_is)
    (case c8 => k_is)
    (case k8 => k_is)
    (case a9 => k_is)
    (case l9 => k_is)
    (case c9 => k_is)
    (case k9 => k_is)
    (case a10 => k_is)
    (case l10 => k_is)
    (case c10 => k_is)
    (case k10 => k_is)
    (case qa_Let => k_is)
    (case m11_Let => k_is)
    (case fn11 => k_is)
    (case l11 => k_is)
    (case c11 => k_is)
    (case k11 => k_is)
    (case qa_Deed => k_is)
    (case m12_Deed => k_is)
    (case fn12 => k_is)
    (case l12 => k_is)
    (case c12 => k_is)
    (case k12 => k_is)
    (case qa_Draw => k_is)
    (case m13_Draw => k_is)
    (case fn13 => k_is)
    (case l13 => k_is)
    (case c13 => k_is)
    (case k13 => k_is)
    (case qa_Late => k_is)
    (case m14_Late => k_is)
    (case fn14 => k_is)
    (case l14 => k_is)
    (case c14 => k_is)
    (case k14 => k_is)
    (case qa_Take => k_is)
    (case m15_Take => k_is)
    (case fn15 => k_is)
    (case l15 => k_is)
    (case c15 => k_is)
    (case k15 => k_is)
    (case qa_Need => k_is)
    (case m16_Need => k_is)
    (case fn16 => k_is)
    (case l16 => k_is)
    (case c16 => k_is)
    (case k16 => k_is)
    (case m17_Let => k_is)
    (case fn17 => k_is)
    (case l17 => k_is)
    (case c17 => k_is)
    (case k17 => k_is)
    (case m18_Deed => k_is)
    (case fn18 => k_is)
    (case l18 => k_is)
    (case c18 => k_is)
    (case k18 => k_is)
    (case m19_Draw => k_is)
    (case fn19 => k_is)
    (case l19 => k_is)
    (case c19 => k_is)
    (case k19 => k_is)
    (case m20_Late => k_is)
    (case fn20 => k_is)
    (case l20 => k_is)
    (case c20 => k_is)
    (case k20 => k_is)
    (case m21_Take => k_is)
    (case fn21 => k_is)
    (case l21 => k_is)
    (case c21 => k_is)
    (case k21 => k_is)
    (case m22_Need => k_is)
    (case fn22 => k_is)
    (case l22 => k_is)
    (case c22 => k_is)
    (case k22 => k_is)
    (case m23_Let => k_is)
    (case fn23 => k_is)
    (case m23_Deed => k_is)
    (case m23_Need => k_is)
    (case l23 => k_is)
    (case c23 => k_is)
    (case k23 => k_is)
    (case m24_Draw => k_is)
    (case fn24 => k_is)
    (case l24 => k_is)
    (case c24 => k_is)
    (case k24 => k_is)
    (case m25_Late => k_is)
    (case fn25 => k_is)
    (case l25 => k_is)
    (case c25 => k_is)
    (case k25 => k_is)
    (case m26_Take => k_is)
    (case fn26 => k_is)
    (case l26 => k_is)
    (case c26 => k_is)
    (case k26 => k_is)
    (case m27_Let => k_is)
    (case fn27 => k_is)
    (case l27 => k_is)
    (case c27 => k_is)
    (case k27 => k_is)
    (case m28_Deed => k_is)
    (case fn28 => k_is)
    (case l28 => k_is)
    (case c28 => k_is)
    (case k28 => k_is)
    (case m29_Draw => k_is)
    (case fn29 => k_is)
    (case l29 => k_is)
    (case c29 => k_is)
    (case k29 => k_is)
    (case m30_Late => k_is)
    (case fn30 => k_is)
    (case l30 => k_is)
    (case c30 => k_is)
    (case k30 => k_is)
    (case m31_Take => k_is)
    (case fn31 => k_is)
    (case l31 => k_is)
    (case c31 => k_is)
    (case k31 => k_is)
    (case m32_Need => k_is)
    (case fn32 => k_is)
    (case l32 => k_is)
    (case c32 => k_is)
    (case k32 => k_is)
    (case a33 => k_is)
    (case l33 => k_is)
    (case c33 => k_is)
    (case k33 => k_is)
    (case a34 => k_is)
    (case l34 => k_is)
    (case c34 => k_is)
    (case k34 => k_is)
    (case a35 => k_is)
    (case l35 => k_is)
    (case c35 => k_is)
    (case k35 => k_is)
    (case a36 => k_is)
    (case l36 => k_is)
    (case c36 => k_is)
    (case k36 => k_is)
    (case a37 => k_is)
    (case l37 => k_is)
    (case c37 => k_is)
    (case k37 => k_is)
    (case a38 => k_is)
    (case l38 => k_is)
    (case c38 => k_is)
    (case k38 => k_is)
    (case a39 => k_is)
    (case l39 => k_is)
    (case c39 => k_is)
    (case k39 => k_is)
    (case a40 => k_is)
    (case l40 => k_is)
    (case c40 => k_is)
    (case k40 => k_is)
    (case a41 => k_is)
    (case l41 => k_is)
    (case c41 => k_is)
    (case k41 => k_is)
    (case a42 => k_is)
    (case l42 => k_is)
    (case c42 => k_is)
    (case k42 => k_is)
    (case a43 => k_is)
    (case l43 => k_is)
    (case c43 => k_is)
    (case k43 => k_is)
    (case a44 => k_is)
    (case l44 => k_is)
    (case c44 => k_is)
    (case k44 => k_is)
    (case a45 => k_is)
    (case l45 => k_is)
    (case c45 => k_is)
    (case k45 => k_is)
    (case a46 => k_is)
    (case l46 => k_is)
    (case c46 => k_is)
    (case k46 => k_is)
    (case a47 => k_is)
    (case l47 => k_is)
    (case c47 => k_is)
    (case k47 => k_is)
    (case a48 => k_is)
    (case l48 => k_is)
    (case c48 => k_is)
    (case k48 => k_is)
    (case a49 => k_is)
    (case l49 => k_is)
    (case c49 => k_is)
    (case k49 => k_is)
    (case a50 => k_is)
    (case l50 => k_is)
    (case c50 => k_is)
    (case k50 => k_is)
    (case a51 => k_is)
    (case l51 => k_is)
    (case c51 => k_is)
    (case k51 => k_is)
    (case a52 => k_is)
    (case l52 => k_is)
    (case c52 => k_is)
    (case k52 => k_is)
    (case a53 => k_is)
    (case l53 => k_is)
    (case c53 => k_is)
    (case k53 => k_is)
    (case a54 => k_is)
    (case l54 => k_is)
    (case c54 => k_is)
    (case k54 => k_is)
    (case a55 => k_is)
    (case l55 => k_is)
    (case c55 => k_is)
    (case k55 => k_is)
    (case a56 => k_is)
    (case l56 => k_is)
    (case c56 => k_is)
    (case k56 => k_is)
    (case qb_Deed => k_is)
    (case qc_Deed => k_is)
    (case qd_Deed => k_is)
    (case qe_Deed => k_is)
    (case qn_Deed_name => k_is)
    (case qn_Deed_terms => k_is)
    (case qb_Draw => k_is)
    (case qc_Draw => k_is)
    (case qd_Draw => k_is)
    (case qe_Draw => k_is)
    (case qn_Draw_address => k_is)
    (case qn_Draw_name => k_is)
    (case qb_Late => k_is)
    (case qc_Late => k_is)
    (case qd_Late => k_is)
    (case qe_Late => k_is)
    (case qn_Late_address => k_is)
    (case qn_Late_name => k_is)
    (case qb_Let => k_is)
    (case qc_Let => k_is)
    (case qd_Let => k_is)
    (case qe_Let => k_is)
    (case qn_Let_name => k_is)
    (case qn_Let_terms => k_is)
    (case qb_Need => k_is)
    (case qc_Need => k_is)
    (case qd_Need => k_is)
    (case qe_Need => k_is)
    (case qn_Need_terms => k_is)
    (case qb_Take => k_is)
    (case qc_Take => k_is)
    (case qd_Take => k_is)
    (case qe_Take => k_is)
    (case qn_Take_address => k_is)
    (case qn_Take_name => k_is)
    (case qn_Take_word => k_is)
    (case qk_Deed => k_is)
    (case qj_Deed => k_is)
    (case qs_Deed_Deed => k_is)
    (case qf_Deed => k_is)
    (case qg => k_is)
    (case qh => k_is)
    (case qi_Deed => k_is)
    (case qz_Deed_Draw => rfl)
    (case qk_Draw => k_is)
    (case qj_Draw => k_is)
    (case qs_Deed_Draw => k_is)
    (case qz_Deed_Late => rfl)
    (case qk_Late => k_is)
    (case qj_Late => k_is)
    (case qs_Deed_Late => k_is)
    (case qz_Deed_Let => rfl)
    (case qk_Let => k_is)
    (case qj_Let => k_is)
    (case qs_Deed_Let => k_is)
    (case qz_Deed_Need => rfl)
    (case qk_Need => k_is)
    (case qj_Need => k_is)
    (case qs_Deed_Need => k_is)
    (case qa_Row => k_is)
    (case qk_Row => k_is)
    (case qj_Row => k_is)
    (case qs_Deed_Row => k_is)
    (case qz_Deed_Take => rfl)
    (case qk_Take => k_is)
    (case qj_Take => k_is)
    (case qs_Deed_Take => k_is)
    (case qz_Draw_Deed => rfl)
    (case qs_Draw_Deed => k_is)
    (case qf_Draw => k_is)
    (case qi_Draw => k_is)
    (case qs_Draw_Draw => k_is)
    (case qz_Draw_Late => rfl)
    (case qs_Draw_Late => k_is)
    (case qz_Draw_Let => rfl)
    (case qs_Draw_Let => k_is)
    (case qz_Draw_Need => rfl)
    (case qs_Draw_Need => k_is)
    (case qs_Draw_Row => k_is)
    (case qz_Draw_Take => rfl)
    (case qs_Draw_Take => k_is)
    (case qz_Late_Deed => rfl)
    (case qs_Late_Deed => k_is)
    (case qf_Late => k_is)
    (case qi_Late => k_is)
    (case qz_Late_Draw => rfl)
    (case qs_Late_Draw => k_is)
    (case qs_Late_Late => k_is)
    (case qz_Late_Let => rfl)
    (case qs_Late_Let => k_is)
    (case qz_Late_Need => rfl)
    (case qs_Late_Need => k_is)
    (case qs_Late_Row => k_is)
    (case qz_Late_Take => rfl)
    (case qs_Late_Take => k_is)
    (case qz_Let_Deed => rfl)
    (case qs_Let_Deed => k_is)
    (case qf_Let => k_is)
    (case qi_Let => k_is)
    (case qz_Let_Draw => rfl)
    (case qs_Let_Draw => k_is)
    (case qz_Let_Late => rfl)
    (case qs_Let_Late => k_is)
    (case qs_Let_Let => k_is)
    (case qz_Let_Need => rfl)
    (case qs_Let_Need => k_is)
    (case qs_Let_Row => k_is)
    (case qz_Let_Take => rfl)
    (case qs_Let_Take => k_is)
    (case qz_Need_Deed => rfl)
    (case qs_Need_Deed => k_is)
    (case qf_Need => k_is)
    (case qi_Need => k_is)
    (case qz_Need_Draw => rfl)
    (case qs_Need_Draw => k_is)
    (case qz_Need_Late => rfl)
    (case qs_Need_Late => k_is)
    (case qz_Need_Let => rfl)
    (case qs_Need_Let => k_is)
    (case qs_Need_Need => k_is)
    (case qs_Need_Row => k_is)
    (case qz_Need_Take => rfl)
    (case qs_Need_Take => k_is)
    (case qz_Take_Deed => rfl)
    (case qs_Take_Deed => k_is)
    (case qf_Take => k_is)
    (case qi_Take => k_is)
    (case qz_Take_Draw => rfl)
    (case qs_Take_Draw => k_is)
    (case qz_Take_Late => rfl)
    (case qs_Take_Late => k_is)
    (case qz_Take_Let => rfl)
    (case qs_Take_Let => k_is)
    (case qz_Take_Need => rfl)
    (case qs_Take_Need => k_is)
    (case qs_Take_Row => k_is)
    (case qs_Take_Take => k_is)
    (case qa_NoExpr => k_is)
    (case xb_NoExpr => k_exc)
    (case kc_NoExpr => k_is)
    (case xd_NoExpr => k_is)
    (case qj_NoExpr => k_is)
    (case qa_HouseError => k_is)
    (case rd_HouseError => k_is)
    (case sg_HouseError => k_is)
    (case fc_HouseError => k_is)
    (case qc_NoExpr => k_is)
    (case qs_NoText_NoExpr => k_is)
    (case qs_NoExpr_NoExpr => k_is)
    (case qs_HouseError_NoExpr => k_is)
    (case lx_NoText => k_is)
    (case rx_NoText => (first | rfl | decide +kernel))
    (case sa_NoText => k_is)
    (case xd_NoText => k_is)
    (case qj_NoText => k_is)
    (case kc_NoText => k_is)
    (case qn_NoText_at => k_is)
    (case qm_Let => k_is)
    (case kc_Let => k_is)
    (case qm_Deed => k_is)
    (case kc_Deed => k_is)
    (case qm_Draw => k_is)
    (case kc_Draw => k_is)
    (case qm_Late => k_is)
    (case kc_Late => k_is)
    (case qm_Take => k_is)
    (case kc_Take => k_is)
    (case qm_Need => k_is)
    (case kc_Need => k_is)
    (case z_all => k_is)
    (case z_bool => k_is)
    (case z_int => k_is)
    (case z_isinstance => k_is)
    (case z_len => k_is)
    (case z_list => k_is)
    (case z_max => k_is)
    (case z_min => k_is)
    (case z_range => k_is)
    (case z_str => k_is)
    (case z_tuple => k_is)
    (case z_zip => k_is)
    (case g_DEEPEST => k_is)
    (case g_FIGURES => k_is)
    (case g_LETTERS => k_is)
    (case g_LONGEST => k_is)
    (case g_MOST_FIGURES => k_is)
    (case g_MOST_NAMES => k_is)
    (case g_MOST_TERMS => k_is)

