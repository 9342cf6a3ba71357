import PyProof.Rows.All
import Wide.All
import OpenK.AllK
import Wide.FinOn
import PyProof.EqAt
import PyProof.EqKinds
import PyProof.TupleCall
import HandS.Base
import HandS.Call
import HandS.List
import HandS.Comp
import HandS.Ends
import HandS.Dict
import HandS.Iter
import HandS.Text
import HandS.Words
import HandS.WordsList
import HandS.WordsExc
import HandS.Exc
import HandS.ExcOwn
import HandS.Wide
import HandS.IsInst
import HandS.TupAny
import HandS.TupMul
import HandS.Lambda
import HandS.EndTab
import HandS.HeadWalk
import HandS.HeadHook1
import HandS.HeadHook2
import HandS.Defaults
import HandS.NoneIn
import HandS.Style
import KE.KDictDisplayH
import HandS.HeadEnd
import HandS.Head0
import HandS.Head1
import HandS.Head2
import HandS.HeadHook3
import HandS.HeadHook4
import HandS.Replace
import HandS.ExcIs
import HandS.Flt
import HandS.More
import HandS.TryMany
import HandS.CallLocal
import HandS.Strs
import HandS.ReplaceLit
import HandS.ReplaceList
import HandS.Zip
import PyProof.ReprRoads
import HandS.Deep
import HandS.Small
import PyProof.DictUpdate
import KE.GoesMore
import KE.KItemsList
import HandS.DictTup
import KE.KDictZip
import HandS.ReplaceDef
import KE.GoesEnum
import HandS.Nested
import HandS.StrMore
import KE.KDictCopyH
import KE.KDictKeyed
import KE.KEqDict
import KE.SortData
import KE.KDictPairs
import KE.DataCmp
import KE.IntTextLaws
import PySem.Challenge.RW_pocketpile_k43_whole_rows_told_otherwise
set_option Elab.async false
set_option linter.all false
set_option maxRecDepth 100000
set_option maxHeartbeats 4000000
namespace LW
/-! the monomials' codes, counted in the kernel: defined by recursors for the sake of its speed -/
noncomputable section
def kfc {α : Type} (n : Nat) (k : Nat → α) : α := Nat.rec (k 0) (fun m _ => k m) (Nat.add n 1)
def kmrg (xs : List Nat) : List Nat → List Nat :=
  List.rec (fun ys => ys) (fun x xs ih ys => List.rec (List.cons x xs) (fun y ys' ihy =>
    Bool.rec (List.cons y ihy) (Bool.rec (List.cons x (ih (List.cons y ys'))) (List.cons x (ih ys')) (Nat.beq x y)) (Nat.ble x y)) ys) xs
def kdif (xs : List Nat) : List Nat → List Nat :=
  List.rec (fun _ => []) (fun x xs ih ys => List.rec (List.cons x xs) (fun y ys' ihy =>
    Bool.rec ihy (Bool.rec (List.cons x (ih (List.cons y ys'))) (ih ys') (Nat.beq x y)) (Nat.ble x y)) ys) xs
/-- the list, turned, before acc; each element a number; then on -/
def krev {α : Type} (k : List Nat → α) (l : List Nat) : List Nat → α := List.rec (fun acc => k acc) (fun x _ ih acc => kfc x fun x => ih (List.cons x acc)) l
def kfl {α : Type} (l : List Nat) (k : List Nat → α) : α := krev (fun r => krev k r []) l []
/-- the code put before r -/
def kc1 (c : Nat) (r : List Nat) : List Nat := kfc c fun c => List.cons c r
def kif (b e : Nat) (r : List Nat) : List Nat := Nat.rec r (fun _ _ => kc1 e r) b
def kspl (u x : Nat) (r : List Nat) : List Nat := Nat.rec (kc1 (Nat.add u x) r) (fun i ih => kc1 (Nat.add u (Nat.add (Nat.mul 4096 (Nat.succ i)) (Nat.sub x (Nat.succ i)))) ih) x
def kst3 (d e1 e2 b0 f0 b1 f1 b2 f2 u g1 g2 g3 g4 g5 x : Nat) (r : List Nat) : List Nat :=
  kc1 d (kc1 e1 (kc1 e2 (kif b0 f0 (kif b1 f1 (kif b2 f2 (Nat.rec (kc1 u r) (fun _ _ => kc1 g1 (kc1 g2 (kc1 g3 (kc1 g4 (kc1 g5 (kspl u x r)))))) x))))))
def kg1 (q n x b0 b1 b2 : Nat) : Nat := Bool.rec (Nat.add q (Nat.add (Nat.mul 281474976710656 n) (Nat.add (Nat.mul 1152921504606846976 b0) (Nat.mul 4722366482869645213696 b2)))) (Nat.add q (Nat.add (Nat.mul 281474976710656 b0) (Nat.add (Nat.mul 1152921504606846976 n) (Nat.mul 4722366482869645213696 b2)))) (Nat.ble n b0)
def kg2 (q n x b0 b1 b2 : Nat) : Nat := Bool.rec (Bool.rec (Nat.add q (Nat.add (Nat.mul 281474976710656 n) (Nat.add (Nat.mul 1152921504606846976 b0) (Nat.mul 4722366482869645213696 b1)))) (Nat.add q (Nat.add (Nat.mul 281474976710656 b0) (Nat.add (Nat.mul 1152921504606846976 n) (Nat.mul 4722366482869645213696 b1)))) (Nat.ble n b0))
  (Nat.add q (Nat.add (Nat.mul 281474976710656 b0) (Nat.add (Nat.mul 1152921504606846976 b1) (Nat.mul 4722366482869645213696 n)))) (Nat.ble n b1)
def kst2 (P B x y t b0 b1 b2 q d u : Nat) (r : List Nat) : List Nat :=
  kst3 d (Nat.add (Nat.add (Nat.sub P (Nat.add x (Nat.mul 4096 y))) (Nat.add y (Nat.mul 4096 x))) B) (Nat.add (Nat.add t (Nat.mul 4096 (Nat.mod P 68719476736))) B)
    b0 (Nat.add (Nat.add P b0) (Nat.add (Nat.mul 281474976710656 b1) (Nat.mul 1152921504606846976 b2))) b1 (Nat.add (Nat.add P b1) (Nat.add (Nat.mul 281474976710656 b0) (Nat.mul 1152921504606846976 b2))) b2 (Nat.add (Nat.add P b2) (Nat.add (Nat.mul 281474976710656 b0) (Nat.mul 1152921504606846976 b1)))
    u (Nat.add d x) (Nat.add d (Nat.mul x 281474976710656)) (kg1 q (Nat.add b1 x) x b0 b1 b2) (kg2 q (Nat.add b2 x) x b0 b1 b2) (Nat.add u (Nat.mul 4097 x)) x r
/-- what comes of a code in one step, before r; a code's boxes go down -/
def kstp (c : Nat) (r : List Nat) : List Nat :=
  kfc (Nat.mod c 281474976710656) fun P =>
  kfc (Nat.sub c P) fun B =>
  kfc (Nat.mod P 4096) fun x =>
  kfc (Nat.div P 4096) fun q =>
  kfc (Nat.mod q 4096) fun y =>
  kfc (Nat.div q 16777216) fun t =>
  kfc (Nat.mod (Nat.div B 281474976710656) 4096) fun b0 =>
  kfc (Nat.mod (Nat.div B 1152921504606846976) 4096) fun b1 =>
  kfc (Nat.div B 4722366482869645213696) fun b2 =>
  kfc (Nat.add q B) fun d =>
  kfc (Nat.add (Nat.add (Nat.mul 16777216 y) (Nat.mul 68719476736 (Nat.add (Nat.mod (Nat.div q 4096) 4096) t))) B) fun u => kst2 P B x y t b0 b1 b2 q d u r
def ksuc (l : List Nat) : List Nat := List.rec [] (fun c _ ih => kstp c ih) l
def kprs (f : Nat) : List (List Nat) → List (List Nat) :=
  Nat.rec (fun l => l) (fun _ ih l => List.rec [] (fun a l' _ => List.rec [a] (fun b l'' _ => List.cons (kmrg a b) (ih l'')) l') l) f
def kruns (l : List Nat) : List (List Nat) := List.rec [] (fun c _ ih => List.cons [c] ih) l
def kall (d f : Nat) : List (List Nat) → List Nat :=
  Nat.rec (fun l => List.rec [] (fun a _ ih => kmrg a ih) l) (fun _ ih l => ih (kprs f l)) d
def ksort (l : List Nat) : List Nat := kall 22 4000000 (kruns l)
def klv {α : Type} (k : List Nat → α) (n : Nat) : List Nat → List Nat → α :=
  Nat.rec (fun S _ => k S) (fun _ ih S N => kfl (kdif (ksort (ksuc N)) S) fun N' => kfl (kmrg S N') fun S' => ih S' N') n
/-- all orders of the boxes -/
def kpr3 (c p1 p2 p3 p4 p5 a b e : Nat) (ih : List Nat) : List Nat :=
  kc1 c (Bool.rec (Bool.rec (kc1 p1 (kc1 p2 (kc1 p3 (kc1 p4 (kc1 p5 ih))))) (kc1 p2 (kc1 p5 ih)) (Nat.beq b e)) (Bool.rec (kc1 p1 (kc1 p5 ih)) ih (Nat.beq b e)) (Nat.beq a b))
def kpr2 (c P a b e : Nat) (ih : List Nat) : List Nat :=
  kpr3 c (Nat.add P (Nat.add (Nat.mul 281474976710656 a) (Nat.add (Nat.mul 1152921504606846976 e) (Nat.mul 4722366482869645213696 b))))
      (Nat.add P (Nat.add (Nat.mul 281474976710656 b) (Nat.add (Nat.mul 1152921504606846976 a) (Nat.mul 4722366482869645213696 e))))
      (Nat.add P (Nat.add (Nat.mul 281474976710656 b) (Nat.add (Nat.mul 1152921504606846976 e) (Nat.mul 4722366482869645213696 a))))
      (Nat.add P (Nat.add (Nat.mul 281474976710656 e) (Nat.add (Nat.mul 1152921504606846976 a) (Nat.mul 4722366482869645213696 b))))
      (Nat.add P (Nat.add (Nat.mul 281474976710656 e) (Nat.add (Nat.mul 1152921504606846976 b) (Nat.mul 4722366482869645213696 a)))) a b e ih
def kpr1 (c : Nat) (ih : List Nat) : List Nat :=
  kfc (Nat.mod c 281474976710656) fun P =>
  kfc (Nat.div c 281474976710656) fun q =>
  kfc (Nat.mod q 4096) fun a =>
  kfc (Nat.mod (Nat.div q 4096) 4096) fun b =>
  kfc (Nat.div q 16777216) fun e => kpr2 c P a b e ih
def kprm (l : List Nat) : List Nat := List.rec [] (fun c _ ih => kpr1 c ih) l
/-- one round of a tuple's hash -/
def krnd {α : Type} (acc x : Nat) (k : Nat → α) : α :=
  kfc (Nat.mod (Nat.add acc (Nat.mul x 14029467366897019727)) 18446744073709551616) fun a =>
  kfc (Nat.mod (Nat.mul (Nat.add (Nat.mod (Nat.mul a 2147483648) 18446744073709551616) (Nat.div a 8589934592)) 11400714785074694791) 18446744073709551616) k
def khsh {α : Type} (c : Nat) (k : Nat → α) : α :=
  krnd 2870177450012600261 (Nat.mod c 4096) fun a => krnd a (Nat.mod (Nat.div c 4096) 4096) fun a => krnd a (Nat.mod (Nat.div c 16777216) 4096) fun a =>
  krnd a (Nat.mod (Nat.div c 68719476736) 4096) fun a => krnd a (Nat.mod (Nat.div c 281474976710656) 4096) fun a => krnd a (Nat.mod (Nat.div c 1152921504606846976) 4096) fun a =>
  krnd a (Nat.mod (Nat.div c 4722366482869645213696) 4096) fun a => kfc (Nat.mod (Nat.add a 2870177450013471921) 18446744073709551616) k
/-- each code with its hash ahead of it -/
def khm (l : List Nat) : List Nat := List.rec [] (fun c _ ih => khsh c fun h => kc1 (Nat.add (Nat.mul h 19342813113834066795298816) c) ih) l
/-- the hashes go up -/
def kinc (l : List Nat) : Nat → Bool := List.rec (fun p => Nat.ble (Nat.succ p) 18446744073709551615) (fun m _ ih p => kfc (Nat.div m 19342813113834066795298816) fun h => Bool.rec false (ih h) (Nat.ble (Nat.succ p) h)) l
def kapt (l : List Nat) : Bool := kinc (ksort (khm l)) 0
end
theorem kfc_eq {α : Type} (n : Nat) (k : Nat → α) : kfc n k = k n := rfl
theorem kc1_eq (c : Nat) (r : List Nat) : kc1 c r = c :: r := rfl
theorem mem_kmrg : ∀ {xs ys : List Nat} {z : Nat}, z ∈ xs ∨ z ∈ ys → z ∈ kmrg xs ys
  | [], ys, z, h => h.resolve_left (by simp)
  | x :: xs, [], z, h => h.resolve_right (by simp)
  | x :: xs, y :: ys, z, h => by
    have e : kmrg (x :: xs) (y :: ys) = Bool.rec (y :: kmrg (x :: xs) ys) (Bool.rec (x :: kmrg xs (y :: ys)) (x :: kmrg xs ys) (Nat.beq x y)) (Nat.ble x y) := rfl
    rw [e]
    cases Nat.ble x y with
    | false =>
      show z ∈ y :: kmrg (x :: xs) ys
      rcases h with h | h
      · exact List.mem_cons_of_mem _ (mem_kmrg (.inl h))
      · rcases List.mem_cons.mp h with rfl | h
        · exact List.mem_cons_self ..
        · exact List.mem_cons_of_mem _ (mem_kmrg (.inr h))
    | true =>
      cases hb : Nat.beq x y with
      | false =>
        show z ∈ x :: kmrg xs (y :: ys)
        rcases h with h | h
        · rcases List.mem_cons.mp h with rfl | h
          · exact List.mem_cons_self ..
          · exact List.mem_cons_of_mem _ (mem_kmrg (.inl h))
        · exact List.mem_cons_of_mem _ (mem_kmrg (.inr h))
      | true =>
        obtain rfl := Nat.eq_of_beq_eq_true hb
        show z ∈ x :: kmrg xs ys
        rcases h with h | h
        · rcases List.mem_cons.mp h with rfl | h
          · exact List.mem_cons_self ..
          · exact List.mem_cons_of_mem _ (mem_kmrg (.inl h))
        · rcases List.mem_cons.mp h with rfl | h
          · exact List.mem_cons_self ..
          · exact List.mem_cons_of_mem _ (mem_kmrg (.inr h))
  termination_by xs ys => xs.length + ys.length
theorem kmrg_mem : ∀ {xs ys : List Nat} {z : Nat}, z ∈ kmrg xs ys → z ∈ xs ∨ z ∈ ys
  | [], ys, z, h => .inr h
  | x :: xs, [], z, h => .inl h
  | x :: xs, y :: ys, z, h => by
    have e : kmrg (x :: xs) (y :: ys) = Bool.rec (y :: kmrg (x :: xs) ys) (Bool.rec (x :: kmrg xs (y :: ys)) (x :: kmrg xs ys) (Nat.beq x y)) (Nat.ble x y) := rfl
    rw [e] at h
    revert h
    cases Nat.ble x y with
    | false =>
      intro h
      have h : z ∈ y :: kmrg (x :: xs) ys := h
      rcases List.mem_cons.mp h with rfl | h
      · exact .inr (List.mem_cons_self ..)
      · exact (kmrg_mem h).imp id (List.mem_cons_of_mem _)
    | true =>
      cases Nat.beq x y with
      | false =>
        intro h
        have h : z ∈ x :: kmrg xs (y :: ys) := h
        rcases List.mem_cons.mp h with rfl | h
        · exact .inl (List.mem_cons_self ..)
        · exact (kmrg_mem h).imp (List.mem_cons_of_mem _) id
      | true =>
        intro h
        have h : z ∈ x :: kmrg xs ys := h
        rcases List.mem_cons.mp h with rfl | h
        · exact .inl (List.mem_cons_self ..)
        · exact (kmrg_mem h).imp (List.mem_cons_of_mem _) (List.mem_cons_of_mem _)
  termination_by xs ys => xs.length + ys.length
theorem mem_kdif : ∀ {xs ys : List Nat} {z : Nat}, z ∈ xs → z ∈ kdif xs ys ∨ z ∈ ys
  | x :: xs, [], z, h => .inl h
  | x :: xs, y :: ys, z, h => by
    have e : kdif (x :: xs) (y :: ys) = Bool.rec (kdif (x :: xs) ys) (Bool.rec (x :: kdif xs (y :: ys)) (kdif xs ys) (Nat.beq x y)) (Nat.ble x y) := rfl
    rw [e]
    cases Nat.ble x y with
    | false => exact (mem_kdif (ys := ys) h).imp id (List.mem_cons_of_mem _)
    | true =>
      cases hb : Nat.beq x y with
      | false =>
        rcases List.mem_cons.mp h with rfl | h
        · exact .inl (List.mem_cons_self ..)
        · exact (mem_kdif (ys := y :: ys) h).imp (List.mem_cons_of_mem _) id
      | true =>
        obtain rfl := Nat.eq_of_beq_eq_true hb
        rcases List.mem_cons.mp h with rfl | h
        · exact .inr (List.mem_cons_self ..)
        · exact (mem_kdif (ys := ys) h).imp id (List.mem_cons_of_mem _)
  termination_by xs ys => xs.length + ys.length
theorem krev_eq {α : Type} {k : List Nat → α} : ∀ (l acc : List Nat), krev k l acc = k (l.reverse ++ acc)
  | [], acc => rfl
  | x :: l, acc => by
    show krev k l (x :: acc) = _
    rw [krev_eq l, List.reverse_cons, List.append_assoc]
    rfl
theorem kfl_eq {α : Type} {k : List Nat → α} (l : List Nat) : kfl l k = k l := by
  unfold kfl
  rw [krev_eq, krev_eq, List.append_nil, List.append_nil, List.reverse_reverse]
theorem mem_kprs : ∀ {f : Nat} {l : List (List Nat)} {z : Nat}, (∃ a ∈ l, z ∈ a) → ∃ a ∈ kprs f l, z ∈ a
  | 0, l, z, h => h
  | f + 1, [], z, h => h
  | f + 1, [a], z, h => h
  | f + 1, a :: b :: l, z, ⟨c, hc, hz⟩ => by
    show ∃ a' ∈ kmrg a b :: kprs f l, z ∈ a'
    rcases List.mem_cons.mp hc with rfl | hc
    · exact ⟨_, List.mem_cons_self .., mem_kmrg (.inl hz)⟩
    · rcases List.mem_cons.mp hc with rfl | hc
      · exact ⟨_, List.mem_cons_self .., mem_kmrg (.inr hz)⟩
      · obtain ⟨d, hd, hz⟩ := mem_kprs (f := f) ⟨c, hc, hz⟩
        exact ⟨d, List.mem_cons_of_mem _ hd, hz⟩
theorem mem_kone : ∀ {l : List (List Nat)} {z : Nat} {f : Nat}, (∃ a ∈ l, z ∈ a) → z ∈ kall 0 f l
  | [], z, f, ⟨_, h, _⟩ => by cases h
  | a :: l, z, f, ⟨c, hc, hz⟩ => by
    show z ∈ kmrg a (kall 0 f l)
    rcases List.mem_cons.mp hc with rfl | hc
    · exact mem_kmrg (.inl hz)
    · exact mem_kmrg (.inr (mem_kone (f := f) ⟨c, hc, hz⟩))
theorem mem_kall : ∀ {d f : Nat} {l : List (List Nat)} {z : Nat}, (∃ a ∈ l, z ∈ a) → z ∈ kall d f l
  | 0, f, l, z, h => mem_kone h
  | d + 1, f, l, z, h => mem_kall (d := d) (l := kprs f l) (mem_kprs h)
theorem mem_kruns : ∀ {l : List Nat} {z : Nat}, z ∈ l → ∃ a ∈ kruns l, z ∈ a
  | x :: l, z, h => by
    show ∃ a ∈ [x] :: kruns l, z ∈ a
    rcases List.mem_cons.mp h with rfl | h
    · exact ⟨[z], List.mem_cons_self .., List.mem_cons_self ..⟩
    · obtain ⟨a, ha, hz⟩ := mem_kruns h
      exact ⟨a, List.mem_cons_of_mem _ ha, hz⟩
theorem mem_ksort {l : List Nat} {z : Nat} (h : z ∈ l) : z ∈ ksort l := mem_kall (mem_kruns h)
theorem kif_sub {b e : Nat} {r : List Nat} {z : Nat} (h : z ∈ r) : z ∈ kif b e r := by
  cases b with
  | zero => exact h
  | succ b => exact List.mem_cons_of_mem _ h
theorem kif_new {b e : Nat} {r : List Nat} (h : b ≠ 0) : e ∈ kif b e r := by
  cases b with
  | zero => exact absurd rfl h
  | succ b => exact List.mem_cons_self ..
def kspA (u x : Nat) (r : List Nat) (n : Nat) : List Nat := Nat.rec (kc1 (Nat.add u x) r) (fun i ih => kc1 (Nat.add u (Nat.add (Nat.mul 4096 (Nat.succ i)) (Nat.sub x (Nat.succ i)))) ih) n
theorem kspA_sub {u x : Nat} {r : List Nat} {z : Nat} (h : z ∈ r) : ∀ n, z ∈ kspA u x r n
  | 0 => List.mem_cons_of_mem _ h
  | n + 1 => List.mem_cons_of_mem _ (kspA_sub h n)
theorem kspA_new {u x : Nat} {r : List Nat} : ∀ {n i : Nat}, i ≤ n → u + (4096 * i + (x - i)) ∈ kspA u x r n
  | 0, i, h => by
    obtain rfl : i = 0 := by omega
    rw [show u + (4096 * 0 + (x - 0)) = u + x by omega]
    exact List.mem_cons_self ..
  | n + 1, i, h => by
    by_cases e : i = n + 1
    · subst e
      exact List.mem_cons_self ..
    · exact List.mem_cons_of_mem _ (kspA_new (by omega))
theorem kspl_sub {u x : Nat} {r : List Nat} {z : Nat} (h : z ∈ r) : z ∈ kspl u x r := kspA_sub (u := u) (x := x) h x
theorem kcnd_sub {x : Nat} {a b r : List Nat} {z : Nat} (h1 : z ∈ a) (h2 : z ∈ b) : z ∈ (Nat.rec a (fun _ _ => b) x : List Nat) := by
  cases x with
  | zero => exact h1
  | succ x => exact h2
theorem kst3_sub {d e1 e2 b0 f0 b1 f1 b2 f2 u g1 g2 g3 g4 g5 x : Nat} {r : List Nat} {z : Nat} (h : z ∈ r) : z ∈ kst3 d e1 e2 b0 f0 b1 f1 b2 f2 u g1 g2 g3 g4 g5 x r := by
  unfold kst3
  simp only [kc1_eq]
  refine List.mem_cons_of_mem _ (List.mem_cons_of_mem _ (List.mem_cons_of_mem _ (kif_sub (kif_sub (kif_sub (kcnd_sub (r := r) (List.mem_cons_of_mem _ h) ?_))))))
  exact List.mem_cons_of_mem _ (List.mem_cons_of_mem _ (List.mem_cons_of_mem _ (List.mem_cons_of_mem _ (List.mem_cons_of_mem _ (kspl_sub h)))))
theorem kst2_sub {P B x y t b0 b1 b2 q d u : Nat} {r : List Nat} {z : Nat} (h : z ∈ r) : z ∈ kst2 P B x y t b0 b1 b2 q d u r := kst3_sub h
theorem kfc_p {α : Type} (p : α → Prop) {n : Nat} {k : Nat → α} (h : ∀ n, p (k n)) : p (kfc n k) := h n
theorem kstp_sub {c : Nat} {r : List Nat} {z : Nat} (h : z ∈ r) : z ∈ kstp c r :=
  kfc_p (z ∈ ·) fun _ => kfc_p (z ∈ ·) fun _ => kfc_p (z ∈ ·) fun _ => kfc_p (z ∈ ·) fun _ => kfc_p (z ∈ ·) fun _ => kfc_p (z ∈ ·) fun _ => kfc_p (z ∈ ·) fun _ => kfc_p (z ∈ ·) fun _ => kfc_p (z ∈ ·) fun _ => kfc_p (z ∈ ·) fun _ => kfc_p (z ∈ ·) fun _ => kst2_sub h
/-- what one step makes of a code -/
def Kst (c d : Nat) : Prop := ∀ r, d ∈ kstp c r
theorem mem_ksuc : ∀ {l : List Nat} {c d : Nat}, c ∈ l → Kst c d → d ∈ ksuc l
  | x :: l, c, d, h, s => by
    show d ∈ kstp x (ksuc l)
    rcases List.mem_cons.mp h with rfl | h
    · exact s _
    · exact kstp_sub (mem_ksuc h s)
inductive Krc : Nat → Nat → Nat → Prop
  | nil (c : Nat) : Krc 0 c c
  | same {n c d : Nat} : Krc n c d → Krc (n + 1) c d
  | step {n c d e : Nat} : Krc n c d → Kst d e → Krc (n + 1) c e
theorem Krc.left : ∀ {n c d e : Nat}, Kst c d → Krc n d e → Krc (n + 1) c e
  | 0, c, d, e, s, h => by cases h; exact .step (.nil c) s
  | n + 1, c, d, e, s, h => by
    cases h with
    | same h => exact .same (Krc.left s h)
    | step h q => exact .step (Krc.left s h) q
theorem Krc.cut : ∀ {n c e : Nat}, Krc (n + 1) c e → Krc n c e ∨ ∃ d, Kst c d ∧ Krc n d e
  | 0, c, e, h => by
    cases h with
    | same h => exact .inl h
    | step h q => cases h; exact .inr ⟨e, q, .nil e⟩
  | n + 1, c, e, h => by
    cases h with
    | same h => exact (Krc.cut h).elim (fun h => .inl (.same h)) fun ⟨d, q, h⟩ => .inr ⟨d, q, .same h⟩
    | step h q => exact (Krc.cut h).elim (fun h => .inl (.step h q)) fun ⟨d, q', h⟩ => .inr ⟨d, q', .step h q⟩
theorem klv_sound {α : Type} {k : List Nat → α} : ∀ {n : Nat} {S N : List Nat}, (∀ c ∈ N, c ∈ S) → (∀ c ∈ S, c ∈ N ∨ ∀ d, Kst c d → d ∈ S) → ∃ S', klv k n S N = k S' ∧ ∀ c ∈ S, ∀ d, Krc n c d → d ∈ S'
  | 0, S, N, _, _ => ⟨S, rfl, fun c hc d h => by cases h; exact hc⟩
  | n + 1, S, N, hN, hS => by
    have e : klv k (n + 1) S N = kfl (kdif (ksort (ksuc N)) S) fun N' => kfl (kmrg S N') fun S' => klv k n S' N' := rfl
    rw [e, kfl_eq, kfl_eq]
    have inv : ∀ c ∈ kmrg S (kdif (ksort (ksuc N)) S), c ∈ kdif (ksort (ksuc N)) S ∨ ∀ d, Kst c d → d ∈ kmrg S (kdif (ksort (ksuc N)) S) := by
      intro c hc
      by_cases q : c ∈ kdif (ksort (ksuc N)) S
      · exact .inl q
      · refine .inr fun d s => ?_
        have cs : c ∈ S := (kmrg_mem hc).resolve_right q
        rcases hS c cs with p | p
        · rcases mem_kdif (ys := S) (mem_ksort (mem_ksuc p s)) with z | z
          · exact mem_kmrg (.inr z)
          · exact mem_kmrg (.inl z)
        · exact mem_kmrg (.inl (p d s))
    obtain ⟨S', h1, h2⟩ := klv_sound (k := k) (n := n) (S := kmrg S (kdif (ksort (ksuc N)) S)) (N := kdif (ksort (ksuc N)) S) (fun c hc => mem_kmrg (.inr hc)) inv
    refine ⟨S', h1, fun c hc d h => ?_⟩
    rcases Krc.cut h with h | ⟨m, s, h⟩
    · exact h2 c (mem_kmrg (.inl hc)) d h
    · refine h2 m ?_ d h
      rcases hS c hc with q | q
      · rcases mem_kdif (ys := S) (mem_ksort (mem_ksuc q s)) with z | z
        · exact mem_kmrg (.inr z)
        · exact mem_kmrg (.inl z)
      · exact mem_kmrg (.inl (q m s))
theorem kapt_y : klv (fun l => kapt (kprm l)) 11 [4096] [4096] = true := by decide +kernel
end LW
/-! DN: a program's defs as plain functions of data. The heap is dealt with here, once. -/
namespace DN
open PySem PySem.Spec PyProof.Rows L2
open LamX (Tabs ExtN)

/-- data -/
inductive D where
  | non | bl (b : Bool) | int (i : Int) | str (x : Str) | lst (xs : List D) | tup (xs : List D) | fn (x : Str) | ty (n : String)
  | dK (kvs : List (Key × V)) | dT (kvs : List (List Key × V)) | arr (ns : List Int)
  /-- a tuple of texts that has no dict of its own -/
  | pro (xs : List Str)
  /-- a dict whose keys are nested tuples (an object of the frame's own) -/
  | dic (P : Program) (w : World) (ks vs : List D)
  /-- a thing known by its address alone -/
  | adr (a : Addr)
  /-- an instance of the class c, its attributes (an object of the frame's own) -/
  | ins (c : Str) (ns : List Str) (vs : List D)
  /-- a dict of text keys, frozen; where its address is known, that one -/
  | tab (o : Option Addr) (ks : List Str) (vs : List D)
  /-- a tuple of ints, made at run time -/
  | pw (ks : List Int)
  /-- a tuple that has no dict of its own -/
  | frm (ds : List D)
def kvK (ks : List Str) (vs : List V) : List (Key × V) := (ks.zip vs).map fun q => (Sum.inr q.1, q.2)

/-- what comes: a value, an own error by its class's name, or nothing is promised -/
inductive Res (α : Type) where
  | ok (a : α) | ex (n : Str) | bad
def Res.bind {α β : Type} : Res α → (α → Res β) → Res β
  | .ok a, f => f a
  | .ex n, _ => .ex n
  | .bad, _ => .bad
def Res.map {α β : Type} (r : Res α) (f : α → β) : Res β := r.bind fun a => .ok (f a)
def ofO {α : Type} : Option α → Res α
  | some a => .ok a
  | none => .bad

mutual
inductive Rp (K : PySem.W.Frag) (H : Hp) : V → D → Prop
  | non : Rp K H .non .non
  | bl (b : Bool) : Rp K H (.bl b) (.bl b)
  | int (i : Int) : Rp K H (.int i) (.int i)
  | str (x : Str) : Rp K H (.str x) (.str x)
  | fn (x : Str) : Rp K H (.ref (He.ga K x)) (.fn x)
  | ty (n : String) : Rp K H (.ty n) (.ty n)
  | lst {a : Addr} {xs : List V} {ds : List D} : H a = some (.lst xs) → RpAll K H xs ds → Rp K H (.ref a) (.lst ds)
  | tup {a : Addr} {xs : List V} {ds : List D} : SqT K H a xs → RpAll K H xs ds → Rp K H (.ref a) (.tup ds)
  | dK {a : Addr} {kvs : List (Key × V)} : H a = some (.dK kvs) → Rp K H (.ref a) (.dK kvs)
  | dT {a : Addr} {kvs : List (List Key × V)} : (∃ od, H a = some (.frz od (.dT kvs))) → Rp K H (.ref a) (.dT kvs)
  | arr {a : Addr} {ns : List Int} : SqL K H a (ns.map V.int) → Rp K H (.ref a) (.arr ns)
  | pro {a : Addr} {xs : List Str} : (∃ o : Obj, o.cls = .type "tuple" ∧ o.dict = none ∧ H a = some (.frz o (.tup (xs.map V.str)))) → Rp K H (.ref a) (.pro xs)
  | adr (a : Addr) : Rp K H (.ref a) (.adr a)
  | tab {a : Addr} {o : Option Addr} {ks : List Str} {ws : List V} {ds : List D} : (∀ p, o = some p → a = p) → H a = some (.dK (kvK ks ws)) → ks.length = ws.length → RpAll K H ws ds → Rp K H (.ref a) (.tab o ks ds)
  | pw {a : Addr} {ks : List Int} : H a = some (.tup (ks.map V.int)) → Rp K H (.ref a) (.pw ks)
  | frm {a : Addr} {xs : List V} {ds : List D} : (∃ o : Obj, o.cls = .type "tuple" ∧ o.dict = none ∧ H a = some (.frz o (.tup xs))) → RpAll K H xs ds → Rp K H (.ref a) (.frm ds)
inductive RpAll (K : PySem.W.Frag) (H : Hp) : List V → List D → Prop
  | nil : RpAll K H [] []
  | cons {v : V} {vs : List V} {d : D} {ds : List D} : Rp K H v d → RpAll K H vs ds → RpAll K H (v :: vs) (d :: ds)
end

def Sub (F H : Hp) : Prop := ∀ a o, F a = some o → H a = some o
theorem Sub.refl (F : Hp) : Sub F F := fun _ _ h => h
theorem Sub.trans {F G H : Hp} (a : Sub F G) (b : Sub G H) : Sub F H := fun x o h => b x o (a x o h)
theorem Sub.rd {F H : Hp} {a : Addr} {u : HO} (e : Sub F H) (h : Rd F a u) : Rd H a u := by
  rcases h with h | ⟨o, h⟩
  · exact .inl (e _ _ h)
  · exact .inr ⟨o, e _ _ h⟩
theorem Sub.sl {K : PySem.W.Frag} {F H : Hp} {a : Addr} {xs : List V} (e : Sub F H) (h : SqL K F a xs) : SqL K H a xs := h.elim (fun h => .inl (e.rd h)) .inr
theorem Sub.st {K : PySem.W.Frag} {F H : Hp} {a : Addr} {xs : List V} (e : Sub F H) (h : SqT K F a xs) : SqT K H a xs := h.elim (fun h => .inl (e.rd h)) .inr
mutual
theorem Rp.mono {K : PySem.W.Frag} {F H : Hp} (e : Sub F H) : ∀ {v : V} {d : D}, Rp K F v d → Rp K H v d
  | _, _, .non => .non
  | _, _, .bl b => .bl b
  | _, _, .int i => .int i
  | _, _, .str x => .str x
  | _, _, .fn x => .fn x
  | _, _, .ty n => .ty n
  | _, _, .lst h t => .lst (e _ _ h) (RpAll.mono e t)
  | _, _, .tup h t => .tup (e.st h) (RpAll.mono e t)
  | _, _, .dK h => .dK (e _ _ h)
  | _, _, .dT ⟨od, h⟩ => .dT ⟨od, e _ _ h⟩
  | _, _, .arr h => .arr (e.sl h)
  | _, _, .pro ⟨o, h1, h2, h3⟩ => .pro ⟨o, h1, h2, e _ _ h3⟩
  | _, _, .adr a => .adr a
  | _, _, .tab h1 h2 h3 t => .tab h1 (e _ _ h2) h3 (RpAll.mono e t)
  | _, _, .pw h => .pw (e _ _ h)
  | _, _, .frm ⟨o, h1, h2, h3⟩ t => .frm ⟨o, h1, h2, e _ _ h3⟩ (RpAll.mono e t)
theorem RpAll.mono {K : PySem.W.Frag} {F H : Hp} (e : Sub F H) : ∀ {vs : List V} {ds : List D}, RpAll K F vs ds → RpAll K H vs ds
  | _, _, .nil => .nil
  | _, _, .cons h t => .cons (Rp.mono e h) (RpAll.mono e t)
end
section
variable {K : PySem.W.Frag} {F H : Hp}
theorem RpAll.length : ∀ {vs : List V} {ds : List D}, RpAll K F vs ds → vs.length = ds.length
  | _, _, .nil => rfl
  | _, _, .cons _ t => by rw [List.length_cons, List.length_cons, RpAll.length t]
theorem RpAll.get : ∀ {vs : List V} {ds : List D} {i : Nat} {d : D}, RpAll K F vs ds → ds[i]? = some d → ∃ v, vs[i]? = some v ∧ Rp K F v d
  | _, _, _, _, .nil, e => by simp at e
  | _, _, 0, _, .cons h _, e => by
    simp at e; subst e; exact ⟨_, rfl, h⟩
  | _, _, i + 1, d, .cons _ t, e => by
    obtain ⟨v, h1, h2⟩ := RpAll.get (i := i) (d := d) t (by simpa using e)
    exact ⟨v, by simpa using h1, h2⟩
theorem RpAll.append : ∀ {vs ws : List V} {ds es : List D}, RpAll K F vs ds → RpAll K F ws es → RpAll K F (vs ++ ws) (ds ++ es)
  | _, _, _, _, .nil, s => s
  | _, _, _, _, .cons h t, s => .cons h (RpAll.append t s)
theorem RpAll.take : ∀ {vs : List V} {ds : List D} (n : Nat), RpAll K F vs ds → RpAll K F (vs.take n) (ds.take n)
  | _, _, 0, _ => by simp; exact .nil
  | _, _, _ + 1, .nil => .nil
  | _, _, n + 1, .cons h t => .cons h (RpAll.take n t)
theorem RpAll.drop : ∀ {vs : List V} {ds : List D} (n : Nat), RpAll K F vs ds → RpAll K F (vs.drop n) (ds.drop n)
  | _, _, 0, r => r
  | _, _, _ + 1, .nil => .nil
  | _, _, n + 1, .cons _ t => RpAll.drop n t
theorem RpAll.reverse : ∀ {vs : List V} {ds : List D}, RpAll K F vs ds → RpAll K F vs.reverse ds.reverse
  | _, _, .nil => .nil
  | _, _, .cons h t => by
    rw [List.reverse_cons, List.reverse_cons]
    exact (RpAll.reverse t).append (.cons h .nil)
theorem RpAll.ints : ∀ (ns : List Int), RpAll K F (ns.map V.int) (ns.map D.int)
  | [] => .nil
  | n :: ns => .cons (.int n) (RpAll.ints ns)
end

/-- the frozen part F of H -/
structure Fz (F H : Hp) : Prop where
  sub : Sub F H
  nt : ∀ a ps, F a ≠ some (.tbl ps)
/-- a table, or a tuple (which no one changes) -/
def Sd (o : HO) : Prop := (∃ ps, o = .tbl ps) ∨ ∃ xs, o = .tup xs
/-- from (F, H) to (F', H') -/
structure Nx (T : List (Addr × Str)) (F H F' H' : Hp) : Prop where
  f : Sub F F'
  z : Fz F' H'
  h : ExtN H H'
  new : ∀ a o, F' a = some o → F a = some o ∨ ∀ o', H a = some o' → Sd o'
  tab : Tabs T H → Tabs T H'
section
variable {T : List (Addr × Str)} {F H F1 H1 F2 H2 : Hp}
theorem Nx.refl (z : Fz F H) : Nx T F H F H := ⟨Sub.refl F, z, ExtN.refl H, fun _ _ h => .inl h, fun h => h⟩
theorem Nx.trans (a : Nx T F H F1 H1) (b : Nx T F1 H1 F2 H2) : Nx T F H F2 H2 where
  f := a.f.trans b.f
  z := b.z
  h := a.h.trans b.h
  new := fun x o e => by
    rcases b.new x o e with h | h
    · exact a.new x o h
    · refine .inr fun o' e' => ?_
      by_cases q : ∃ ps, o' = .tbl ps
      · exact .inl q
      · exact h o' (a.h x o' e' fun ps z => q ⟨ps, z⟩)
  tab := fun h => b.tab (a.tab h)
/-- a new object that is frozen from its begin -/
theorem Nx.push {p : Addr} {o : HO} (z : Fz F H) (hp : H p = none) (ho : ∀ ps, o ≠ .tbl ps) : Nx T F H (upd F p o) (upd H p o) := by
  have fp : F p = none := by
    cases q : F p with
    | none => rfl
    | some u =>
      have := z.sub _ _ q
      rw [hp] at this; cases this
  refine ⟨fun a u e => ?_, ⟨fun a u e => ?_, fun a ps e => ?_⟩, fun b u e _ => ?_, fun a u e => ?_, fun t => t.ext fun b u e => ?_⟩
  · rw [upd_ne (ne_of_none e fp)]; exact e
  · by_cases h : a = p
    · subst h; rw [upd_same] at e ⊢; exact e
    · rw [upd_ne h] at e ⊢; exact z.sub _ _ e
  · by_cases h : a = p
    · subst h; rw [upd_same] at e; exact ho ps (Option.some.inj e)
    · rw [upd_ne h] at e; exact z.nt _ _ e
  · rw [upd_ne (ne_of_none e hp)]; exact e
  · by_cases h : a = p
    · subst h; exact .inr fun o' e' => by rw [hp] at e'; cases e'
    · rw [upd_ne h] at e; exact .inl e
  · rw [upd_ne (ne_of_none e hp)]; exact e
/-- a new object that is not frozen -/
theorem Nx.lay {p : Addr} {o : HO} (z : Fz F H) (hp : H p = none) : Nx T F H F (upd H p o) := by
  refine ⟨Sub.refl F, ⟨fun a u e => ?_, z.nt⟩, fun b u e _ => ?_, fun a u e => .inl e, fun t => t.ext fun b u e => ?_⟩
  · rw [upd_ne (ne_of_none (z.sub _ _ e) hp)]; exact z.sub _ _ e
  · rw [upd_ne (ne_of_none e hp)]; exact e
  · rw [upd_ne (ne_of_none e hp)]; exact e
theorem Nx.keep (n : Nx T F H F1 H1) {a : Addr} {o : HO} (e : H a = some o) (ho : ∀ ps, o ≠ .tbl ps) : H1 a = some o := n.h a o e ho
theorem Nx.out (n : Nx T F H F1 H1) {a : Addr} {o : HO} (e : H a = some o) (ho : ∀ ps, o ≠ .tbl ps) (hf : F a = none) (hx : ∀ xs, o ≠ .tup xs := by intro _ z; cases z) : F1 a = none := by
  cases q : F1 a with
  | none => rfl
  | some u =>
    rcases n.new a u q with h | h
    · rw [hf] at h; cases h
    · rcases h o e with ⟨ps, z⟩ | ⟨xs, z⟩
      · exact absurd z (ho ps)
      · exact absurd z (hx xs)
end

/-- a slot: nothing is known; frozen data; an object of the frame's own -/
inductive En where
  | u | z (d : D) | o (d : D)
abbrev Rho := List En
/-! dicts of nested keys -/
mutual
def D.key : D → Option NestedKey
  | .non => some .none
  | .bl b => some (.num (if b = true then 1 else 0))
  | .int i => some (.num i)
  | .str x => some (.text x)
  | .tup ds => (D.keys ds).map .tup
  | _ => none
def D.keys : List D → Option (List NestedKey)
  | [] => some []
  | d :: ds => (D.key d).bind fun k => (D.keys ds).map fun ks => k :: ks
end
def EntR (p : NestedKey × Addr × V) (q : NestedKey × Addr × Value) : Prop := p.1 = q.1 ∧ p.2.1 = q.2.1 ∧ RelV p.2.2 q.2.2
/-- the dict at a: its keys (the tuples' addresses) and values -/
def DicO (P : Program) (w : World) (a : Addr) (es : List (NestedKey × Addr × V)) : HO := .ext fun h => (a == sysModules) = false ∧ es.length ≤ sizeLine ∧ ∃ xs : List (NestedKey × Addr × Value), Paired EntR es xs ∧
  ∃ o ents ep, h.get? a = some o ∧ o.ExactDict ∧ o.data = .dict ents ep ∧ ents.toList = xs.map (entryOfKey (nestedKind P w)) ∧ (xs.map (·.1)).Nodup
inductive DicR (K : PySem.W.Frag) (F : Hp) : List (NestedKey × Addr × V) → List D → List D → Prop
  | nil : DicR K F [] [] []
  | cons {n : NestedKey} {a : Addr} {v : V} {es : List (NestedKey × Addr × V)} {k d : D} {ks vs : List D} : k.key = some n → n.depth ≤ 8 → Rp K F (.ref a) k → Rp K F v d → DicR K F es ks vs → DicR K F ((n, a, v) :: es) (k :: ks) (d :: vs)
theorem DicR.mono {K : PySem.W.Frag} {F F' : Hp} (e : Sub F F') {es : List (NestedKey × Addr × V)} {ks vs : List D} (h : DicR K F es ks vs) : DicR K F' es ks vs := by
  induction h with
  | nil => exact .nil
  | cons h1 h2 h3 h4 _ ih => exact .cons h1 h2 (h3.mono e) (h4.mono e) ih
/-- the object at p, not frozen, is d -/
def OwnAt (K : PySem.W.Frag) (F H : Hp) (p : Addr) : D → Prop
  | .lst ds => ∃ xs, H p = some (.lst xs) ∧ RpAll K F xs ds
  | .dK kvs => H p = some (.dK kvs)
  | .dT kvs => H p = some (.dT kvs)
  | .dic P w ks vs => ∃ es, H p = some (DicO P w p es) ∧ DicR K F es ks vs
  | .ins c ns vs => ∃ dx ws, H p = some (.ins (He.ga K c) dx (ns.zip ws)) ∧ RpAll K F ws vs
  | _ => False
theorem OwnAt.solid {K : PySem.W.Frag} {F H : Hp} {p : Addr} : ∀ {d : D}, OwnAt K F H p d → ∃ o, H p = some o ∧ ∀ ps, o ≠ .tbl ps
  | .lst ds, ⟨xs, h, _⟩ => ⟨_, h, fun ps z => by cases z⟩
  | .dK kvs, h => ⟨_, h, fun ps z => by cases z⟩
  | .dT kvs, h => ⟨_, h, fun ps z => by cases z⟩
  | .dic P w ks vs, ⟨es, h, _⟩ => ⟨_, h, fun ps z => by unfold DicO at z; cases z⟩
  | .ins c ns vs, ⟨dx, ws, h, _⟩ => ⟨_, h, fun ps z => by cases z⟩
  | .non, h => h.elim
  | .bl _, h => h.elim
  | .int _, h => h.elim
  | .str _, h => h.elim
  | .tup _, h => h.elim
  | .fn _, h => h.elim
  | .ty _, h => h.elim
  | .arr _, h => h.elim
  | .pro _, h => h.elim
  | .adr _, h => h.elim
  | .tab _ _ _, h => h.elim
theorem OwnAt.notTup {K : PySem.W.Frag} {F H : Hp} {p : Addr} {d : D} {xs : List V} (h : OwnAt K F H p d) (e : H p = some (.tup xs)) : False := by
  cases d with
  | lst ds => obtain ⟨ys, q, _⟩ := h; rw [e] at q; cases q
  | dK kvs => have q : H p = some (.dK kvs) := h; rw [e] at q; cases q
  | dT kvs => have q : H p = some (.dT kvs) := h; rw [e] at q; cases q
  | dic P w ks vs => obtain ⟨es, q, _⟩ := h; rw [e] at q; unfold DicO at q; cases q
  | ins c ns vs => obtain ⟨dx, ws, q, _⟩ := h; rw [e] at q; cases q
  | _ => exact h
theorem OwnAt.mono {K : PySem.W.Frag} {T : List (Addr × Str)} {F H F' H' : Hp} {p : Addr} (n : Nx T F H F' H') : ∀ {d : D}, OwnAt K F H p d → OwnAt K F' H' p d
  | .lst ds, ⟨xs, h, r⟩ => ⟨xs, n.keep h fun ps z => (by cases z), RpAll.mono n.f r⟩
  | .dK kvs, h => n.keep h fun ps z => (by cases z)
  | .dT kvs, h => n.keep h fun ps z => (by cases z)
  | .dic P w ks vs, ⟨es, h, r⟩ => ⟨es, n.keep h fun ps z => (by unfold DicO at z; cases z), r.mono n.f⟩
  | .ins c ns vs, ⟨dx, ws, h, r⟩ => ⟨dx, ws, n.keep h fun ps z => (by cases z), r.mono n.f⟩
  | .non, h => h.elim
  | .bl _, h => h.elim
  | .int _, h => h.elim
  | .str _, h => h.elim
  | .tup _, h => h.elim
  | .fn _, h => h.elim
  | .ty _, h => h.elim
  | .arr _, h => h.elim
  | .pro _, h => h.elim
  | .adr _, h => h.elim
  | .tab _ _ _, h => h.elim
structure Rl (K : PySem.W.Frag) (F H : Hp) (σ : L2.St) (ρ : Rho) : Prop where
  len : σ.length = ρ.length
  z : ∀ (i : Nat) (d : D), ρ[i]? = some (En.z d) → ∃ v, σ[i]? = some (some v) ∧ Rp K F v d
  o : ∀ (i : Nat) (d : D), ρ[i]? = some (En.o d) → ∃ p, σ[i]? = some (some (V.ref p)) ∧ F p = none ∧ OwnAt K F H p d
  ne : ∀ (i j : Nat) (d e : D) (p q : Addr), i ≠ j → ρ[i]? = some (En.o d) → ρ[j]? = some (En.o e) → σ[i]? = some (some (V.ref p)) → σ[j]? = some (some (V.ref q)) → p ≠ q
section
variable {K : PySem.W.Frag} {T : List (Addr × Str)} {F H F' H' : Hp} {σ : L2.St} {ρ : Rho}
theorem Rl.mono (n : Nx T F H F' H') (r : Rl K F H σ ρ) : Rl K F' H' σ ρ where
  len := r.len
  z := fun i d e => let ⟨v, h1, h2⟩ := r.z i d e; ⟨v, h1, h2.mono n.f⟩
  o := fun i d e => by
    obtain ⟨p, h1, h2, h3⟩ := r.o i d e
    obtain ⟨o, h4, h5⟩ := h3.solid
    exact ⟨p, h1, n.out h4 h5 h2 (fun xs z => h3.notTup (by rw [h4, z])), h3.mono n⟩
  ne := r.ne
theorem Rl.set {i : Nat} {v : V} {d : D} (r : Rl K F H σ ρ) (h : Rp K F v d) : Rl K F H (σ.set i (some v)) (ρ.set i (.z d)) where
  len := by rw [List.length_set, List.length_set]; exact r.len
  z := fun j e hj => by
    rw [List.getElem?_set] at hj ⊢
    by_cases hij : i = j
    · subst hij
      rw [if_pos rfl] at hj ⊢
      by_cases hl : i < ρ.length
      · rw [if_pos hl] at hj
        rw [if_pos (by rw [r.len]; exact hl)]
        cases hj
        exact ⟨v, rfl, h⟩
      · rw [if_neg hl] at hj; cases hj
    · rw [if_neg hij] at hj ⊢
      exact r.z j e hj
  o := fun j e hj => by
    rw [List.getElem?_set] at hj ⊢
    by_cases hij : i = j
    · subst hij
      rw [if_pos rfl] at hj
      by_cases hl : i < ρ.length
      · rw [if_pos hl] at hj; cases hj
      · rw [if_neg hl] at hj; cases hj
    · rw [if_neg hij] at hj ⊢
      exact r.o j e hj
  ne := fun j k a b p q hn h1 h2 h3 h4 => by
    rw [List.getElem?_set] at h1 h2 h3 h4
    have fj : i ≠ j := fun z => by
      rw [if_pos z] at h1; split at h1 <;> cases h1
    have fk : i ≠ k := fun z => by
      rw [if_pos z] at h2; split at h2 <;> cases h2
    rw [if_neg fj] at h1 h3
    rw [if_neg fk] at h2 h4
    exact r.ne j k a b p q hn h1 h2 h3 h4
theorem Rl.wipe1 {i : Nat} (r : Rl K F H σ ρ) : Rl K F H (σ.set i none) (ρ.set i .u) where
  len := by rw [List.length_set, List.length_set]; exact r.len
  z := fun j e hj => by
    rw [List.getElem?_set] at hj ⊢
    by_cases hij : i = j
    · subst hij
      rw [if_pos rfl] at hj
      split at hj <;> cases hj
    · rw [if_neg hij] at hj ⊢
      exact r.z j e hj
  o := fun j e hj => by
    rw [List.getElem?_set] at hj ⊢
    by_cases hij : i = j
    · subst hij
      rw [if_pos rfl] at hj
      split at hj <;> cases hj
    · rw [if_neg hij] at hj ⊢
      exact r.o j e hj
  ne := fun j k a b p q hn h1 h2 h3 h4 => by
    rw [List.getElem?_set] at h1 h2 h3 h4
    have fj : i ≠ j := fun z => by
      rw [if_pos z] at h1; split at h1 <;> cases h1
    have fk : i ≠ k := fun z => by
      rw [if_pos z] at h2; split at h2 <;> cases h2
    rw [if_neg fj] at h1 h3
    rw [if_neg fk] at h2 h4
    exact r.ne j k a b p q hn h1 h2 h3 h4
end

/-! ### readings by functions of data -/
/-- what is wanted behind: of an α that stands for the β -/
def aft {α β : Type} (R : Hp → α → β → Prop) (K : PySem.W.Frag) (T : List (Addr × Str)) (W : WX) (σ : L2.St) (F H : Hp) (Q : α → Hp → Prop) : Res β → Prop
  | .ok b => ∀ a F' H', Nx T F H F' H' → R F' a b → Q a H'
  | .ex n => ∀ F' H', Nx T F H F' H' → W (.ref (He.ga K n)) none σ H'
  | .bad => False
abbrev RBool : Hp → Bool → Bool → Prop := fun _ a b => a = b
/-- where one stands -/
structure At (K : PySem.W.Frag) (T : List (Addr × Str)) (F H : Hp) (σ : L2.St) (ρ : Rho) : Prop where
  z : Fz F H
  t : Tabs T H
  r : Rl K F H σ ρ
theorem At.nx {K : PySem.W.Frag} {T : List (Addr × Str)} {F H F' H' : Hp} {σ : L2.St} {ρ : Rho} (a : At K T F H σ ρ) (n : Nx T F H F' H') : At K T F' H' σ ρ := ⟨n.z, n.tab a.t, a.r.mono n⟩
def tG {α β : Type} (R : PySem.W.Frag → Hp → α → β → Prop) (K : PySem.W.Frag) (T : List (Addr × Str)) (W : WX) (f : Rho → Res β) : L2.St → Hp → (α → Hp → Prop) → Prop :=
  fun σ H Q => ∃ ρ F, At K T F H σ ρ ∧ aft (R K) K T W σ F H Q (f ρ)
def tE (K : PySem.W.Frag) (T : List (Addr × Str)) (W : WX) (f : Rho → Res D) : TE := tG Rp K T W f
def tA (K : PySem.W.Frag) (T : List (Addr × Str)) (W : WX) (f : Rho → Res (List D)) : TA := tG RpAll K T W f
def tT (K : PySem.W.Frag) (T : List (Addr × Str)) (W : WX) (f : Rho → Res Bool) : TT := tG (fun _ => RBool) K T W f
section
variable {K : PySem.W.Frag} {T : List (Addr × Str)} {W : WX} {σ : L2.St} {F H F' H' : Hp}
theorem aft.mono {α β : Type} {R : Hp → α → β → Prop} {Q : α → Hp → Prop} {r : Res β} (n : Nx T F H F' H') (h : aft R K T W σ F H Q r) : aft R K T W σ F' H' Q r := by
  cases r with
  | ok b => exact fun a F2 H2 n2 ra => h a F2 H2 (n.trans n2) ra
  | ex m => exact fun F2 H2 n2 => h F2 H2 (n.trans n2)
  | bad => exact h
theorem aft.imp {α β : Type} {R : Hp → α → β → Prop} {Q Q' : α → Hp → Prop} {r : Res β} (h : aft R K T W σ F H Q r) (hq : ∀ b, r = .ok b → ∀ a F' H', Nx T F H F' H' → R F' a b → Q a H' → Q' a H') : aft R K T W σ F H Q' r := by
  cases r with
  | ok b => exact fun a F2 H2 n ra => hq b rfl a F2 H2 n ra (h a F2 H2 n ra)
  | ex m => exact h
  | bad => exact h
/-- one thing behind another -/
theorem aft.bind {α β γ δ : Type} {R : Hp → α → β → Prop} {S : Hp → γ → δ → Prop} {Q : γ → Hp → Prop} {r : Res β} {k : β → Res δ} (h : aft S K T W σ F H Q (r.bind k)) :
    aft R K T W σ F H (fun a H1 => ∃ b F1, r = .ok b ∧ Nx T F H F1 H1 ∧ R F1 a b ∧ aft S K T W σ F1 H1 Q (k b)) r := by
  cases r with
  | ok b => exact fun a F2 H2 n ra => ⟨b, F2, rfl, n, ra, aft.mono n h⟩
  | ex m => exact h
  | bad => exact h
theorem aft.ok {α β : Type} {R : Hp → α → β → Prop} {Q : α → Hp → Prop} {b : β} {a : α} {F1 H1 : Hp} (h : aft R K T W σ F H Q (.ok b)) (n : Nx T F H F1 H1) (ra : R F1 a b) : Q a H1 := h a F1 H1 n ra
end
/-- a judgement is weakened -/
theorem _root_.L2.PE.to {X : Cx} {e : Expr} {t u : TE} (h : PE X e t) (k : ∀ σ H Q, u σ H Q → t σ H Q) : PE X e u := ⟨fun pins s σ H Q I q => h.run pins s σ H Q I (k σ H Q q)⟩
theorem _root_.L2.PT.to {X : Cx} {e : Expr} {t u : TT} (h : PT X e t) (k : ∀ σ H Q, u σ H Q → t σ H Q) : PT X e u := ⟨fun pins s σ H Q I q => h.run pins s σ H Q I (k σ H Q q)⟩
theorem _root_.L2.PW.to {X : Cx} {e : Expr} {t u : TT} (h : PW X e t) (k : ∀ σ H Q, u σ H Q → t σ H Q) : PW X e u := ⟨fun whole pins s σ H Q I q => h.run whole pins s σ H Q I (k σ H Q q)⟩
theorem _root_.L2.PA.to {X : Cx} {es : List Expr} {t u : TA} (h : PA X es t) (k : ∀ σ H Q, u σ H Q → t σ H Q) : PA X es u := ⟨fun pos pins s σ H Q I q => h.run pos pins s σ H Q I (k σ H Q q)⟩
theorem _root_.L2.PS.to {X : Cx} {st : Stmt} {t u : TS} (h : PS X st t) (k : ∀ D σ H, u D σ H → t D σ H) : PS X st u := ⟨fun pins s σ H D I q => h.run pins s σ H D I (k D σ H q)⟩
theorem _root_.L2.PSs.to {X : Cx} {st : List Stmt} {t u : TS} (h : PSs X st t) (k : ∀ D σ H, u D σ H → t D σ H) : PSs X st u := ⟨fun pins s σ H D I q => h.run pins s σ H D I (k D σ H q)⟩

/-! ### names, constants, arguments -/
section
variable {X : Cx} {T : List (Addr × Str)} {W : WX}
abbrev DE (X : Cx) (T : List (Addr × Str)) (W : WX) (e : Expr) (f : Rho → Res D) : Prop := PE X e (tE X.K T W f)
abbrev DQ (X : Cx) (T : List (Addr × Str)) (W : WX) (e : Expr) (f : Rho → Res Bool) : Prop := PT X e (tT X.K T W f)
abbrev DW (X : Cx) (T : List (Addr × Str)) (W : WX) (e : Expr) (f : Rho → Res Bool) : Prop := PW X e (tT X.K T W f)
abbrev DA (X : Cx) (T : List (Addr × Str)) (W : WX) (es : List Expr) (f : Rho → Res (List D)) : Prop := PA X es (tA X.K T W f)

def var (i : Nat) : Rho → Res D := fun ρ => match ρ[i]? with
  | some (.z d) => .ok d
  | _ => .bad
theorem e_var {i : Nat} {x : Str} {pos : Pos} (h : PE X (.Name x pos) (tVar i)) : DE X T W (.Name x pos) (var i) := h.to fun σ H Q hq => by
  obtain ⟨ρ, F, a, h⟩ := hq
  unfold var at h
  cases e : ρ[i]? with
  | none => rw [e] at h; exact h.elim
  | some en =>
    rw [e] at h
    cases en with
    | u => exact h.elim
    | o d => exact h.elim
    | z d =>
      obtain ⟨v, h1, h2⟩ := a.r.z i d e
      exact ⟨v, h1, h v F H (Nx.refl a.z) h2⟩
def con (d : D) : Rho → Res D := fun _ => .ok d
theorem e_c {e : Expr} {v : V} {d : D} (h : PE X e (tC v)) (r : ∀ F, Rp X.K F v d) : DE X T W e (con d) := h.to fun σ H Q ⟨ρ, F, a, h⟩ => h v F H (Nx.refl a.z) (r F)
theorem e_int {i j pos} : DE X T W (.Constant (.int i) j pos) (con (.int i)) := e_c pe_int fun _ => .int i
theorem e_bl {b j pos} : DE X T W (.Constant (.bool b) j pos) (con (.bl b)) := e_c pe_bl fun _ => .bl b
theorem e_non {j pos} : DE X T W (.Constant .none j pos) (con .non) := e_c pe_non fun _ => .non
theorem e_str {x j pos} : DE X T W (.Constant (.str x) j pos) (con (.str x)) := e_c pe_str fun _ => .str x

def anil : Rho → Res (List D) := fun _ => .ok []
def acons (f : Rho → Res D) (g : Rho → Res (List D)) : Rho → Res (List D) := fun ρ => (f ρ).bind fun d => (g ρ).bind fun ds => .ok (d :: ds)
theorem a_nil : DA X T W [] anil := pa_nil.to fun σ H Q ⟨ρ, F, a, h⟩ => h [] F H (Nx.refl a.z) .nil
theorem a_cons {e : Expr} {es : List Expr} {f : Rho → Res D} {g : Rho → Res (List D)} (he : DE X T W e f) (hs : DA X T W es g) (hstar : starEach (e :: es) X.env = (false, eval e X.env) :: starEach es X.env := by rfl) : DA X T W (e :: es) (acons f g) :=
  (pa_cons he hs hstar).to fun σ H Q ⟨ρ, F, a, h⟩ => by
    refine ⟨ρ, F, a, (aft.bind (R := Rp X.K) h).imp fun d _ v F1 H1 _ _ q => ?_⟩
    obtain ⟨b, F2, _, n, rv, q⟩ := q
    refine ⟨ρ, F2, a.nx n, (aft.bind (R := RpAll X.K) q).imp fun ds _ vs F3 H3 _ _ q => ?_⟩
    obtain ⟨ds', F4, _, n2, rs, q⟩ := q
    exact q.ok (Nx.refl n2.z) (.cons (rv.mono n2.f) rs)
end
end DN
namespace DN
open PySem PySem.Spec PyProof.Rows L2
open LamX (Tabs ExtN)
open PySem.Builtin.Str (tooLong)

/-! ### operators -/
/-- an operation on values, by a function of data -/
def rD2 (K : PySem.W.Frag) (T : List (Addr × Str)) (G : D → D → Option D) : R2 := fun x y H Q =>
  ∃ F d e z, Fz F H ∧ Rp K F x d ∧ Rp K F y e ∧ G d e = some z ∧ ∀ v F' H', Nx T F H F' H' → Rp K F' v z → Q v H'
def rD1 (K : PySem.W.Frag) (T : List (Addr × Str)) (G : D → Option D) : V → Hp → VK → Prop := fun x H Q =>
  ∃ F d z, Fz F H ∧ Rp K F x d ∧ G d = some z ∧ ∀ v F' H', Nx T F H F' H' → Rp K F' v z → Q v H'
def rDn (K : PySem.W.Frag) (T : List (Addr × Str)) (G : List D → Option D) : List V → Hp → VK → Prop := fun xs H Q =>
  ∃ F ds z, Fz F H ∧ RpAll K F xs ds ∧ G ds = some z ∧ ∀ v F' H', Nx T F H F' H' → Rp K F' v z → Q v H'
def bop (G : D → D → Option D) (f g : Rho → Res D) : Rho → Res D := fun ρ => (f ρ).bind fun d => (g ρ).bind fun e => ofO (G d e)
def una (G : D → Option D) (f : Rho → Res D) : Rho → Res D := fun ρ => (f ρ).bind fun d => ofO (G d)
def cal (G : List D → Option D) (f : Rho → Res (List D)) : Rho → Res D := fun ρ => (f ρ).bind fun ds => ofO (G ds)
section
variable {X : Cx} {T : List (Addr × Str)} {W : WX}
theorem ofO_ok {α : Type} {o : Option α} {K : PySem.W.Frag} {σ : L2.St} {F H : Hp} {β : Type} {R : Hp → β → α → Prop} {Q : β → Hp → Prop} (h : aft R K T W σ F H Q (ofO o)) : ∃ a, o = some a ∧ ∀ b F' H', Nx T F H F' H' → R F' b a → Q b H' := by
  cases o with
  | none => exact h.elim
  | some a => exact ⟨a, rfl, h⟩
theorem bin_to {K : PySem.W.Frag} {G : D → D → Option D} {f g : Rho → Res D} {σ : L2.St} {H : Hp} {Q : VK} (h : tE K T W (bop G f g) σ H Q) : tOp (rD2 K T G) (tE K T W f) (tE K T W g) σ H Q := by
  obtain ⟨ρ, F, a, h⟩ := h
  refine ⟨ρ, F, a, (aft.bind (R := Rp K) h).imp fun d _ v F1 H1 _ _ q => ?_⟩
  obtain ⟨b, F2, _, n, rv, q⟩ := q
  refine ⟨ρ, F2, a.nx n, (aft.bind (R := Rp K) q).imp fun ds _ vs F3 H3 _ _ q => ?_⟩
  obtain ⟨e, F4, _, n2, rs, q⟩ := q
  obtain ⟨z, hz, q⟩ := ofO_ok q
  exact ⟨F4, b, e, z, n2.z, rv.mono n2.f, rs, hz, q⟩
theorem e_bin {op : Operator} {G : D → D → Option D} {a b : Expr} {f g : Rho → Res D} {pos : Pos} (ho : OpR X (binaryOp op) (rD2 X.K T G)) (ha : DE X T W a f) (hb : DE X T W b g) : DE X T W (.BinOp a op b pos) (bop G f g) :=
  (pe_op ho ha hb).to fun _ _ _ h => bin_to h
theorem e_una {op : UnaryOp} {G : D → Option D} {a : Expr} {f : Rho → Res D} {pos : Pos} (ho : UnR X (unaryOp op) (rD1 X.K T G)) (ha : DE X T W a f) : DE X T W (.UnaryOp op a pos) (una G f) :=
  (pe_un ho ha).to fun σ H Q ⟨ρ, F, a, h⟩ => by
    refine ⟨ρ, F, a, (aft.bind (R := Rp X.K) h).imp fun d _ v F1 H1 _ _ q => ?_⟩
    obtain ⟨b, F2, _, n, rv, q⟩ := q
    obtain ⟨z, hz, q⟩ := ofO_ok q
    exact ⟨F2, b, z, n.z, rv, hz, q⟩
theorem e_cmp {op : CmpOp} {G : D → D → Option D} {a b : Expr} {f g : Rho → Res D} {pos : Pos} (ho : OpR X (compareOp op) (rD2 X.K T G)) (ha : DE X T W a f) (hb : DE X T W b g) (hm : behindInMarks op b = false) : DE X T W (.Compare a [op] [b] pos) (bop G f g) :=
  (pe_cmpR ho ha hb hm).to fun _ _ _ h => bin_to h
/-- a comparison's answer -/
def ans : D → Res Bool
  | .bl b => .ok b
  | _ => .bad
def tst (f : Rho → Res D) : Rho → Res Bool := fun ρ => (f ρ).bind ans
theorem tst_to {K : PySem.W.Frag} {f : Rho → Res D} {σ : L2.St} {H : Hp} {Q : Bool → Hp → Prop} (h : tT K T W (tst f) σ H Q) : tE K T W f σ H fun x H' => ∃ k, x = .bl k ∧ Q k H' := by
  obtain ⟨ρ, F, a, h⟩ := h
  refine ⟨ρ, F, a, (aft.bind (R := Rp K) h).imp fun d _ v F1 H1 _ _ q => ?_⟩
  obtain ⟨b, F2, _, n, rv, q⟩ := q
  cases b with
  | bl k =>
    cases rv
    exact ⟨k, rfl, q k F2 H1 (Nx.refl n.z) rfl⟩
  | _ => exact q.elim
theorem q_cmp {op : CmpOp} {G : D → D → Option D} {a b : Expr} {f g : Rho → Res D} {pos : Pos} (ho : OpR X (compareOp op) (rD2 X.K T G)) (ha : DE X T W a f) (hb : DE X T W b g) (hm : behindInMarks op b = false) : DQ X T W (.Compare a [op] [b] pos) (tst (bop G f g)) :=
  (pt_cmpR ho ha hb hm).to fun σ H Q h => by
    have h2 := tst_to h
    exact bin_to h2
end

/-! the operators' functions -/
def CMulD (i j : Int) : Prop := CMul i j ∨ CMulW i j
instance : Decidable (CMulD i j) := by unfold CMulD CMul CMulW; infer_instance
instance : Decidable (CDivW i j) := by unfold CDivW; infer_instance
def repS (x : Str) (n : Int) : Str := ⟨((List.replicate n.toNat x.cps.toList).flatten).toArray⟩
def addD : D → D → Option D
  | .int i, .int j => some (.int (i + j))
  | .str x, .str y => if x.length + y.length ≤ sizeLine then some (.str (x ++ y)) else none
  | .tup xs, .tup ys => if xs.length + ys.length ≤ sizeLine then some (.tup (xs ++ ys)) else none
  | .lst xs, .lst ys => if xs.length + ys.length ≤ sizeLine then some (.lst (xs ++ ys)) else none
  | _, _ => none
def subD : D → D → Option D
  | .int i, .int j => some (.int (i - j))
  | _, _ => none
def mulD : D → D → Option D
  | .int i, .int j => if CMulD i j then some (.int (i * j)) else none
  | .str x, .int n => if n ≤ 1000000 ∧ -1000000 ≤ n ∧ x.length * n.toNat ≤ 1000000 then some (.str (repS x n)) else none
  | .tup xs, .int k => if 2 ≤ k ∧ k ≤ 1000 ∧ xs.isEmpty = false ∧ xs.length ≤ 1000 then some (.tup (List.replicate k.toNat xs).flatten) else none
  | _, _ => none
def divD : D → D → Option D
  | .int i, .int j => if CDivW i j then some (.int (i / j)) else none
  | _, _ => none
def modD : D → D → Option D
  | .int i, .int j => if 0 < j then some (.int (i % j)) else none
  | _, _ => none
def negD : D → Option D
  | .int i => some (.int (-i))
  | _ => none
def ltD : D → D → Option D
  | .int i, .int j => some (.bl (decide (i < j)))
  | _, _ => none
def leD : D → D → Option D
  | .int i, .int j => some (.bl (decide (i ≤ j)))
  | _, _ => none
def gtD : D → D → Option D
  | .int i, .int j => some (.bl (decide (j < i)))
  | _, _ => none
def geD : D → D → Option D
  | .int i, .int j => some (.bl (decide (j ≤ i)))
  | _, _ => none
def isNotN : D → D → Option D
  | .non, .non => some (.bl false)
  | _, .non => some (.bl true)
  | _, _ => none
section
variable {X : Cx} {T : List (Addr × Str)} {W : WX}
theorem done0 {K : PySem.W.Frag} {F H : Hp} {z : D} {v : V} {Q : VK} (hz : Fz F H) (q : ∀ v F' H', Nx T F H F' H' → Rp K F' v z → Q v H') (r : Rp K F v z) : Q v H := q v F H (Nx.refl hz) r
theorem donep {K : PySem.W.Frag} {F H : Hp} {z : D} {p : Addr} {o : HO} {Q : VK} (hz : Fz F H) (hp : H p = none) (ho : ∀ ps, o ≠ .tbl ps) (q : ∀ v F' H', Nx T F H F' H' → Rp K F' v z → Q v H') (r : Rp K (upd F p o) (.ref p) z) : Q (.ref p) (upd H p o) :=
  q _ _ _ (Nx.push hz hp ho) r
theorem rp_tup {K : PySem.W.Frag} {F H : Hp} {p : Addr} {xs : List V} {ds : List D} (hz : Fz F H) (hp : H p = none) (r : RpAll K F xs ds) : Rp K (upd F p (.tup xs)) (.ref p) (.tup ds) :=
  .tup (.inl (.inl upd_same)) (r.mono (Nx.push (T := []) (o := .tup xs) hz hp (fun ps z => by cases z)).f)
theorem rp_lst {K : PySem.W.Frag} {F H : Hp} {p : Addr} {xs : List V} {ds : List D} (hz : Fz F H) (hp : H p = none) (r : RpAll K F xs ds) : Rp K (upd F p (.lst xs)) (.ref p) (.lst ds) :=
  .lst upd_same (r.mono (Nx.push (T := []) (o := .lst xs) hz hp (fun ps z => by cases z)).f)
theorem ntT {xs : List V} : ∀ ps, HO.tup xs ≠ .tbl ps := fun _ z => by cases z
theorem ntL {xs : List V} : ∀ ps, HO.lst xs ≠ .tbl ps := fun _ z => by cases z
theorem RpAll.nil_iff {K : PySem.W.Frag} {F : Hp} {xs : List V} {ds : List D} (r : RpAll K F xs ds) : xs = [] ↔ ds = [] := by
  cases r with
  | nil => simp
  | cons _ _ => simp
theorem o_add : OpR X (binaryOp .Add) (rD2 X.K T addD) := by
  intro pins s σ H x y v u Q I rx ry h
  obtain ⟨F, d, e, z, hz, rd, re, hG, q⟩ := h
  cases rd with
  | int i =>
    cases re with
    | int j => cases hG; exact op_add pins s σ H _ _ v u Q I rx ry ⟨i, j, rfl, rfl, done0 hz q (.int _)⟩
    | _ => cases hG
  | str i =>
    cases re with
    | str j =>
      have hG : (if i.length + j.length ≤ sizeLine then some (D.str (i ++ j)) else none) = some z := hG
      split at hG
      · rename_i hl
        cases hG
        exact op_add_str pins s σ H _ _ v u Q I rx ry ⟨i, j, rfl, rfl, hl, done0 hz q (.str _)⟩
      · cases hG
    | _ => cases hG
  | tup h1 r1 =>
    cases re with
    | tup h2 r2 =>
      rename_i a xs ds b ys es
      have hG : (if ds.length + es.length ≤ sizeLine then some (D.tup (ds ++ es)) else none) = some z := hG
      split at hG
      · rename_i hl
        cases hG
        refine op_catA pins s σ H _ _ v u Q I rx ry ⟨a, b, xs, ys, rfl, rfl, hz.sub.st h1, hz.sub.st h2, by rw [r1.length, r2.length]; exact hl, fun e => ?_, fun e1 e2 => ?_, fun e1 e2 p hp => ?_⟩
        · have e' := r1.nil_iff.mp e
          subst e'
          exact done0 hz q (.tup h2 r2)
        · have e' := r2.nil_iff.mp e2
          subst e'
          rw [List.append_nil] at q
          exact done0 hz q (.tup h1 r1)
        · exact donep hz hp ntT q (rp_tup hz hp (r1.append r2))
      · cases hG
    | _ => cases hG
  | lst h1 r1 =>
    cases re with
    | lst h2 r2 =>
      rename_i a xs ds b ys es
      have hG : (if ds.length + es.length ≤ sizeLine then some (D.lst (ds ++ es)) else none) = some z := hG
      split at hG
      · rename_i hl
        cases hG
        exact op_cat pins s σ H _ _ v u Q I rx ry ⟨a, b, xs, ys, rfl, rfl, hz.sub _ _ h1, hz.sub _ _ h2, by rw [r1.length, r2.length]; exact hl, fun p hp => donep hz hp ntL q (rp_lst hz hp (r1.append r2))⟩
      · cases hG
    | _ => cases hG
  | _ => cases hG
theorem foldA (x : Array Nat) : ∀ (n : Nat) (acc : Array Nat), (List.replicate n x).foldl (· ++ ·) acc = (acc.toList ++ (List.replicate n x.toList).flatten).toArray
  | 0, acc => by simp
  | n + 1, acc => by
    rw [List.replicate_succ, List.foldl_cons, foldA x n]
    simp [List.replicate_succ]
theorem fold_rep (x : Array Nat) (n : Nat) : (List.replicate n x).foldl (· ++ ·) #[] = ((List.replicate n x.toList).flatten).toArray := by
  rw [foldA]; simp
theorem sizeLine_val : (sizeLine : Nat) = 16777216 := sizeLine_eq
theorem o_mul_str {pins : List (Addr × Obj)} {s : Shared} {σ : L2.St} {H : Hp} {Q : VK} {x : Str} {n : Int} {t u : Tok} (I : Inv X pins σ H s) (h1 : n ≤ 1000000) (h2 : -1000000 ≤ n) (h3 : x.length * n.toNat ≤ 1000000) (q : Q (.str (repS x n)) H) :
    wpAny (model X.prog X.w) X.A (binaryOp .Mult (.str x t) (.int n u)) (EP X pins σ Q) X.xe s := by
  have tl : tooLong (x.length * n.toNat) = false := by
    unfold tooLong
    refine decide_eq_false ?_
    rw [sizeLine_val]
    omega
  refine PySem.P.mul_str (by rw [decide_eq_false (by omega), decide_eq_false (by omega)]; rfl) (fun g1 g2 => ?_) (fun _ _ => tl) ?_
  · intro hgt
    have hx : x.length ≤ 1000000 := by
      have hn : 1 ≤ n.toNat := by omega
      have := Nat.mul_le_mul_left x.length hn
      omega
    have hd : (2 ^ 63 - 1) / 1000000 ≤ (2 ^ 63 - 1 : Int) / n := by
      apply Int.le_ediv_of_mul_le (by omega)
      have : ((2 ^ 63 - 1 : Int) / 1000000) * n ≤ ((2 ^ 63 - 1 : Int) / 1000000) * 1000000 := Int.mul_le_mul_of_nonneg_left h1 (by decide)
      exact Int.le_trans this (by decide)
    have h0 : (1000000 : Int) ≤ (2 ^ 63 - 1) / 1000000 := by decide
    omega
  · by_cases g1 : n < 1
    · rw [if_pos g1]
      have e : repS x n = Str.empty := by
        unfold repS
        rw [show n.toNat = 0 by omega] <;> rfl
      rw [e] at q
      exact ⟨by decide, ⟨.str Str.empty, H, I.tok _, ⟨_, rfl⟩, q⟩⟩
    · rw [if_neg g1]
      by_cases g2 : (n == 1 || x.length == 0) = true
      · rw [if_pos g2]
        have e : repS x n = x := by
          unfold repS
          rw [Bool.or_eq_true, beq_iff_eq, beq_iff_eq] at g2
          rcases g2 with g | g
          · subst g
            show (⟨(([x.cps.toList] : List (List Nat)).flatten).toArray⟩ : Str) = x
            simp
          · have : x.cps = #[] := Array.eq_empty_of_size_eq_zero g
            cases x
            simp only at this
            subst this
            simp
        rw [e] at q
        exact ⟨.str x, H, I, ⟨_, rfl⟩, q⟩
      · rw [if_neg g2, fold_rep]
        refine ⟨?_, ⟨.str (repS x n), H, I.tok _, ⟨_, rfl⟩, q⟩⟩
        rw [sizeLine_val]
        show ((List.replicate n.toNat x.cps.toList).flatten).toArray.size ≤ _
        rw [List.size_toArray, List.length_flatten]
        simp
        have e : n.toNat * x.cps.size = x.length * n.toNat := Nat.mul_comm _ _
        rw [e]
        omega
theorem o_mul : OpR X (binaryOp .Mult) (rD2 X.K T mulD) := by
  intro pins s σ H x y v u Q I rx ry h
  obtain ⟨F, d, e, z, hz, rd, re, hG, q⟩ := h
  cases rd with
  | int i =>
    cases re with
    | int j =>
      have hG : (if CMulD i j then some (D.int (i * j)) else none) = some z := hG
      split at hG
      · rename_i hc
        cases hG
        rcases hc with hc | hc
        · exact op_mul pins s σ H _ _ v u Q I rx ry ⟨i, j, rfl, rfl, hc, done0 hz q (.int _)⟩
        · exact op_mulW pins s σ H _ _ v u Q I rx ry ⟨i, j, rfl, rfl, hc, done0 hz q (.int _)⟩
      · cases hG
    | _ => cases hG
  | str x =>
    cases re with
    | int n =>
      have hG : (if n ≤ 1000000 ∧ -1000000 ≤ n ∧ x.length * n.toNat ≤ 1000000 then some (D.str (repS x n)) else none) = some z := hG
      split at hG
      · rename_i hc
        cases hG
        obtain ⟨t, rfl⟩ := rx
        obtain ⟨t', rfl⟩ := ry
        exact o_mul_str I hc.1 hc.2.1 hc.2.2 (done0 hz q (.str _))
      · cases hG
    | _ => cases hG
  | tup h1 r1 =>
    cases re with
    | int k =>
      rename_i a xs ds
      have hG : (if 2 ≤ k ∧ k ≤ 1000 ∧ ds.isEmpty = false ∧ ds.length ≤ 1000 then some (D.tup (List.replicate k.toNat ds).flatten) else none) = some z := hG
      split at hG
      · rename_i hc
        cases hG
        obtain ⟨c1, c2, c3, c4⟩ := hc
        have many : ∀ n, RpAll X.K F (List.replicate n xs).flatten (List.replicate n ds).flatten := fun n => by
          induction n with
          | zero => exact .nil
          | succ n ih => simpa [List.replicate_succ] using r1.append ih
        have some_ : xs ≠ [] := fun z => by
          subst z
          cases r1
          cases c3
        exact op_repT pins s σ H _ _ v u Q I rx ry ⟨a, k, xs, rfl, rfl, hz.sub.st h1, some_, c1, c2, by rw [r1.length]; exact c4, fun p hp => donep hz hp ntT q (rp_tup hz hp (many _))⟩
      · cases hG
    | _ => cases hG
  | _ => cases hG
theorem o_div : OpR X (binaryOp .FloorDiv) (rD2 X.K T divD) := by
  intro pins s σ H x y v u Q I rx ry h
  obtain ⟨F, d, e, z, hz, rd, re, hG, q⟩ := h
  cases rd with
  | int i =>
    cases re with
    | int j =>
      have hG : (if CDivW i j then some (D.int (i / j)) else none) = some z := hG
      split at hG
      · rename_i hc
        cases hG
        exact op_fdivW pins s σ H _ _ v u Q I rx ry ⟨i, j, rfl, rfl, hc, done0 hz q (.int _)⟩
      · cases hG
    | _ => cases hG
  | _ => cases hG
theorem o_mod : OpR X (binaryOp .Mod) (rD2 X.K T modD) := by
  intro pins s σ H x y v u Q I rx ry h
  obtain ⟨F, d, e, z, hz, rd, re, hG, q⟩ := h
  cases rd with
  | int i =>
    cases re with
    | int j =>
      have hG : (if 0 < j then some (D.int (i % j)) else none) = some z := hG
      split at hG
      · rename_i hc
        cases hG
        exact op_mod pins s σ H _ _ v u Q I rx ry ⟨i, j, rfl, rfl, hc, done0 hz q (.int _)⟩
      · cases hG
    | _ => cases hG
  | _ => cases hG
theorem u_neg : UnR X (unaryOp .USub) (rD1 X.K T negD) := by
  intro pins s σ H x v Q I rx h
  obtain ⟨F, d, z, hz, rd, hG, q⟩ := h
  cases rd with
  | int i => cases hG; exact un_neg pins s σ H _ v Q I rx ⟨i, rfl, done0 hz q (.int _)⟩
  | _ => cases hG
theorem o_lt : OpR X (compareOp .Lt) (rD2 X.K T ltD) := by
  intro pins s σ H x y v u Q I rx ry h
  obtain ⟨F, d, e, z, hz, rd, re, hG, q⟩ := h
  cases rd with
  | int i =>
    cases re with
    | int j => cases hG; exact op_lt pins s σ H _ _ v u Q I rx ry ⟨i, j, rfl, rfl, done0 hz q (.bl _)⟩
    | _ => cases hG
  | _ => cases hG
theorem o_isNot : OpR X (compareOp .IsNot) (rD2 X.K T isNotN) := by
  intro pins s σ H x y v u Q I rx ry h
  obtain ⟨F, d, e, z, hz, rd, re, hG, q⟩ := h
  cases re with
  | non => cases rd <;> cases hG <;> exact op_notN pins s σ H _ _ v u Q I rx ry ⟨rfl, done0 hz q (.bl _)⟩
  | _ => cases rd <;> cases hG
end
end DN
namespace DN
open PySem PySem.Spec PyProof.Rows L2
open LamX (Tabs ExtN)

/-! ### tests, and, or, not, chains -/
def andQ (f g : Rho → Res Bool) : Rho → Res Bool := fun ρ => (f ρ).bind fun b => if b = true then g ρ else .ok false
def orQ (f g : Rho → Res Bool) : Rho → Res Bool := fun ρ => (f ρ).bind fun b => if b = true then .ok true else g ρ
def notQ (f : Rho → Res Bool) : Rho → Res Bool := fun ρ => (f ρ).bind fun b => .ok (!b)
def andE (f g : Rho → Res D) : Rho → Res D := fun ρ => (f ρ).bind fun d => (ans d).bind fun b => if b = true then g ρ else .ok (.bl false)
def orE (f g : Rho → Res D) : Rho → Res D := fun ρ => (f ρ).bind fun d => (ans d).bind fun b => if b = true then .ok (.bl true) else g ρ
def notE (f : Rho → Res D) : Rho → Res D := fun ρ => (f ρ).bind fun d => (ans d).bind fun b => .ok (.bl (!b))
def chn (G G' : D → D → Option D) (f g h : Rho → Res D) : Rho → Res D := fun ρ => (f ρ).bind fun d => (g ρ).bind fun e => (ofO (G d e)).bind fun z => (ans z).bind fun k => if k = true then (h ρ).bind fun c => ofO (G' e c) else .ok (.bl false)
section
variable {X : Cx} {T : List (Addr × Str)} {W : WX}
theorem q_val {e : Expr} {f : Rho → Res D} (h : DE X T W e f) (he : ∀ whole, isTrue e X.env whole = (do let v ← whole; standAt e.pos; holding [v] (truthy v)) := by intro _; rfl) : DQ X T W e (tst f) :=
  (pt_val h he).to fun _ _ _ h => tst_to h
theorem w_and1 {a : Expr} {pos : Pos} {f : Rho → Res Bool} (h : DQ X T W a f) : DW X T W (.BoolOp .And [a] pos) f := pw_and1 h
theorem w_or1 {a : Expr} {pos : Pos} {f : Rho → Res Bool} (h : DQ X T W a f) : DW X T W (.BoolOp .Or [a] pos) f := pw_or1 h
theorem w_and {a b : Expr} {rest : List Expr} {pos : Pos} {f g : Rho → Res Bool} (h : DQ X T W a f) (h2 : DW X T W (.BoolOp .And (b :: rest) pos) g) : DW X T W (.BoolOp .And (a :: b :: rest) pos) (andQ f g) :=
  (pw_and h h2).to fun σ H Q ⟨ρ, F, a, h⟩ => by
    refine ⟨ρ, F, a, (aft.bind (R := RBool) h).imp fun d _ v F1 H1 _ _ q => ?_⟩
    obtain ⟨b, F2, _, n, rv, q⟩ := q
    obtain rfl : v = b := rv
    cases v with
    | true => exact ⟨ρ, F2, a.nx n, q⟩
    | false => exact q.ok (Nx.refl n.z) rfl
theorem w_or {a b : Expr} {rest : List Expr} {pos : Pos} {f g : Rho → Res Bool} (h : DQ X T W a f) (h2 : DW X T W (.BoolOp .Or (b :: rest) pos) g) : DW X T W (.BoolOp .Or (a :: b :: rest) pos) (orQ f g) :=
  (pw_or h h2).to fun σ H Q ⟨ρ, F, a, h⟩ => by
    refine ⟨ρ, F, a, (aft.bind (R := RBool) h).imp fun d _ v F1 H1 _ _ q => ?_⟩
    obtain ⟨b, F2, _, n, rv, q⟩ := q
    obtain rfl : v = b := rv
    cases v with
    | true => exact q.ok (Nx.refl n.z) rfl
    | false => exact ⟨ρ, F2, a.nx n, q⟩
theorem q_w {e : Expr} {f : Rho → Res Bool} (h : DW X T W e f) : DQ X T W e f := PW.pt h
theorem q_not {a : Expr} {pos : Pos} {f : Rho → Res Bool} (h : DQ X T W a f) : DQ X T W (.UnaryOp .Not a pos) (notQ f) :=
  (pt_not h).to fun σ H Q ⟨ρ, F, a, h⟩ => by
    refine ⟨ρ, F, a, (aft.bind (R := RBool) h).imp fun d _ v F1 H1 _ _ q => ?_⟩
    obtain ⟨b, F2, _, n, rv, q⟩ := q
    obtain rfl : v = b := rv
    exact q.ok (Nx.refl n.z) rfl
theorem e_one {op} {a : Expr} {pos : Pos} {f : Rho → Res D} (h : DE X T W a f) : DE X T W (.BoolOp op [a] pos) f := pe_one h
theorem bool_of {K : PySem.W.Frag} {σ : L2.St} {F H : Hp} {α β : Type} {R : Hp → α → β → Prop} {Q : α → Hp → Prop} {d : D} {v : V} {k : Bool → Res β} (rv : Rp K F v d) (q : aft R K T W σ F H Q ((ans d).bind k)) : ∃ c, v = .bl c ∧ d = .bl c ∧ aft R K T W σ F H Q (k c) := by
  cases rv with
  | bl c => exact ⟨c, rfl, rfl, q⟩
  | _ => exact q.elim
theorem e_and {a b : Expr} {rest : List Expr} {pos : Pos} {f g : Rho → Res D} (h : DE X T W a f) (h2 : DE X T W (.BoolOp .And (b :: rest) pos) g) : DE X T W (.BoolOp .And (a :: b :: rest) pos) (andE f g) :=
  (pe_and h h2).to fun σ H Q ⟨ρ, F, a, h⟩ => by
    refine ⟨ρ, F, a, (aft.bind (R := Rp X.K) h).imp fun d _ v F1 H1 _ _ q => ?_⟩
    obtain ⟨b, F2, _, n, rv, q⟩ := q
    obtain ⟨c, rfl, rfl, q⟩ := bool_of rv q
    refine ⟨c, rfl, ?_⟩
    cases c with
    | true => exact ⟨ρ, F2, a.nx n, q⟩
    | false => exact q.ok (Nx.refl n.z) (.bl false)
theorem e_or {a b : Expr} {rest : List Expr} {pos : Pos} {f g : Rho → Res D} (h : DE X T W a f) (h2 : DE X T W (.BoolOp .Or (b :: rest) pos) g) : DE X T W (.BoolOp .Or (a :: b :: rest) pos) (orE f g) :=
  (pe_or h h2).to fun σ H Q ⟨ρ, F, a, h⟩ => by
    refine ⟨ρ, F, a, (aft.bind (R := Rp X.K) h).imp fun d _ v F1 H1 _ _ q => ?_⟩
    obtain ⟨b, F2, _, n, rv, q⟩ := q
    obtain ⟨c, rfl, rfl, q⟩ := bool_of rv q
    refine ⟨c, rfl, ?_⟩
    cases c with
    | true => exact q.ok (Nx.refl n.z) (.bl true)
    | false => exact ⟨ρ, F2, a.nx n, q⟩
end

/-! ### displays, subscripts, slices -/
def mkT (f : Rho → Res (List D)) : Rho → Res D := fun ρ => (f ρ).bind fun ds => if ds.length ≤ sizeLine then .ok (.tup ds) else .bad
def mkL (f : Rho → Res (List D)) : Rho → Res D := fun ρ => (f ρ).bind fun ds => if ds.length ≤ sizeLine then .ok (.lst ds) else .bad
def ixD : D → D → Option D
  | .tup xs, .int i => atI xs i
  | .lst xs, .int i => atI xs i
  | .arr ns, .int i => (atI ns i).map .int
  | .str x, .int i => if x.length ≤ sizeLine then (atI x.cps.toList i).map fun c => .str ⟨#[c]⟩ else none
  | _, _ => none
def cutD (xs : List D) (lo hi : Option Int) : List D := (xs.drop (HT.sIx xs.length 0 lo)).take (HT.sIx xs.length xs.length hi - HT.sIx xs.length 0 lo)
def slD : D → Option Int → Option Int → Option D
  | .tup xs, lo, hi => some (.tup (cutD xs lo hi))
  | .lst xs, lo, hi => some (.lst (cutD xs lo hi))
  | .str x, lo, hi => if x.length ≤ sizeLine then some (.str (cutS x lo hi)) else none
  | _, _, _ => none
def pno : Rho → Res (Option Int) := fun _ => .ok none
def intO : D → Res (Option Int)
  | .int i => .ok (some i)
  | _ => .bad
def psm (f : Rho → Res D) : Rho → Res (Option Int) := fun ρ => (f ρ).bind intO
def slc (f : Rho → Res D) (g h : Rho → Res (Option Int)) : Rho → Res D := fun ρ => (f ρ).bind fun d => (g ρ).bind fun lo => (h ρ).bind fun hi => ofO (slD d lo hi)
section
variable {X : Cx} {T : List (Addr × Str)} {W : WX}
theorem e_tup {es : List Expr} {x1} {pos : Pos} {f : Rho → Res (List D)} (h : DA X T W es f) : DE X T W (.Tuple es x1 pos) (mkT f) :=
  (pe_tup h).to fun σ H Q ⟨ρ, F, a, h⟩ => by
    refine ⟨ρ, F, a, (aft.bind (R := RpAll X.K) h).imp fun d _ v F1 H1 _ _ q => ?_⟩
    obtain ⟨ds, F2, _, n, rv, q⟩ := q
    have q : aft (Rp X.K) X.K T W σ F2 H1 Q (if ds.length ≤ sizeLine then .ok (.tup ds) else .bad) := q
    split at q
    · rename_i hl
      exact ⟨by rw [rv.length]; exact hl, fun p hp => q _ _ _ (Nx.push n.z hp ntT) (rp_tup n.z hp rv)⟩
    · exact q.elim
theorem e_lst {es : List Expr} {pos : Pos} {f : Rho → Res (List D)} (h : DA X T W es f) : DE X T W (.List es pos) (mkL f) :=
  (pe_lst h).to fun σ H Q ⟨ρ, F, a, h⟩ => by
    refine ⟨ρ, F, a, (aft.bind (R := RpAll X.K) h).imp fun d _ v F1 H1 _ _ q => ?_⟩
    obtain ⟨ds, F2, _, n, rv, q⟩ := q
    have q : aft (Rp X.K) X.K T W σ F2 H1 Q (if ds.length ≤ sizeLine then .ok (.lst ds) else .bad) := q
    split at q
    · rename_i hl
      exact ⟨by rw [rv.length]; exact hl, fun p hp => q _ _ _ (Nx.push n.z hp ntL) (rp_lst n.z hp rv)⟩
    · exact q.elim
theorem atI_get {K : PySem.W.Frag} {F : Hp} {xs : List V} {ds : List D} {i : Int} {d : D} (r : RpAll K F xs ds) (h : atI ds i = some d) : ∃ v, atI xs i = some v ∧ Rp K F v d := by
  unfold atI at h ⊢
  rw [r.length]
  cases e : ixN ds.length i with
  | none => rw [e] at h; cases h
  | some j =>
    rw [e] at h
    exact r.get h
theorem atI_int {ns : List Int} {i : Int} {z : D} (h : (atI ns i).map D.int = some z) : ∃ n, atI (ns.map V.int) i = some (.int n) ∧ z = .int n := by
  unfold atI at h ⊢
  rw [List.length_map]
  cases e : ixN ns.length i with
  | none => rw [e] at h; cases h
  | some j =>
    rw [e] at h
    have h : (ns[j]?).map D.int = some z := h
    show ∃ n, (ns.map V.int)[j]? = some (.int n) ∧ z = .int n
    rw [List.getElem?_map]
    cases q : ns[j]? with
    | none => rw [q] at h; cases h
    | some n =>
      rw [q] at h
      cases h
      exact ⟨n, rfl, rfl⟩
theorem x_ix : IxR X (rD2 X.K T ixD) := by
  intro value slice pins s σ H x y v u Q I rx ry h hs
  obtain ⟨F, d, e, z, hz, rd, re, hG, q⟩ := h
  cases rd with
  | tup h1 r1 =>
    cases re with
    | int i =>
      obtain ⟨w, hw, rw'⟩ := atI_get r1 hG
      exact ix_tup value slice pins s σ H _ _ v u Q I rx ry ⟨_, _, i, w, rfl, rfl, hz.sub.st h1, hw, done0 hz q rw'⟩ hs
    | _ => cases hG
  | lst h1 r1 =>
    cases re with
    | int i =>
      obtain ⟨w, hw, rw'⟩ := atI_get r1 hG
      exact ix_list value slice pins s σ H _ _ v u Q I rx ry ⟨_, _, i, w, rfl, rfl, SqL.of (hz.sub _ _ h1), hw, done0 hz q rw'⟩ hs
    | _ => cases hG
  | arr h1 =>
    cases re with
    | int i =>
      obtain ⟨n, hn, rfl⟩ := atI_int hG
      exact ix_list value slice pins s σ H _ _ v u Q I rx ry ⟨_, _, i, .int n, rfl, rfl, hz.sub.sl h1, hn, done0 hz q (.int n)⟩ hs
    | _ => cases hG
  | str x =>
    cases re with
    | int i =>
      have hG : (if x.length ≤ sizeLine then (atI x.cps.toList i).map fun c => D.str ⟨#[c]⟩ else none) = some z := hG
      split at hG
      · rename_i hl
        cases e : atI x.cps.toList i with
        | none => rw [e] at hG; cases hG
        | some c =>
          rw [e] at hG
          cases hG
          exact ix_str value slice pins s σ H _ _ v u Q I rx ry ⟨x, i, c, rfl, rfl, hl, e, done0 hz q (.str _)⟩ hs
      · cases hG
    | _ => cases hG
  | _ => cases hG
theorem e_ix {a b : Expr} {f g : Rho → Res D} {pos : Pos} (ha : DE X T W a f) (hb : DE X T W b g) (hs : PlainIx b := by exact fun _ _ => rfl) : DE X T W (.Subscript a b pos) (bop ixD f g) :=
  (pe_ix x_ix ha hb hs).to fun _ _ _ h => bin_to h
abbrev DO (X : Cx) (T : List (Addr × Str)) (W : WX) (e : Option Expr) (f : Rho → Res (Option Int)) : Prop := PO X e (tG (fun _ _ a b => a = b) X.K T W f)
theorem _root_.L2.PO.to {X : Cx} {e : Option Expr} {t u : TO} (h : PO X e t) (k : ∀ σ H Q, u σ H Q → t σ H Q) : PO X e u := ⟨fun pins s σ H Q I q => h.run pins s σ H Q I (k σ H Q q)⟩
theorem p_none : DO X T W none pno := po_none.to fun σ H Q ⟨ρ, F, a, h⟩ => h _ F H (Nx.refl a.z) rfl
theorem p_some {e : Expr} {f : Rho → Res D} (h : DE X T W e f) : DO X T W (some e) (psm f) :=
  (po_some h).to fun σ H Q ⟨ρ, F, a, h⟩ => by
    refine ⟨ρ, F, a, (aft.bind (R := Rp X.K) h).imp fun d _ v F1 H1 _ _ q => ?_⟩
    obtain ⟨b, F2, _, n, rv, q⟩ := q
    cases rv with
    | int i => exact ⟨i, rfl, q.ok (Nx.refl n.z) rfl⟩
    | _ => exact q.elim
theorem RpAll.cut {K : PySem.W.Frag} {F : Hp} {xs : List V} {ds : List D} (r : RpAll K F xs ds) (lo hi : Option Int) : RpAll K F (cutV xs lo hi) (cutD ds lo hi) := by
  unfold cutV cutD
  rw [r.length]
  exact (r.drop _).take _
theorem cut_whole {ds : List D} {lo hi : Option Int} (h : HT.sIx ds.length 0 lo = 0 ∧ HT.sIx ds.length ds.length hi = ds.length) : cutD ds lo hi = ds := by
  unfold cutD
  rw [h.1, h.2]
  simp
def rSlD (K : PySem.W.Frag) (T : List (Addr × Str)) : V → Option Int → Option Int → Hp → VK → Prop := fun x lo hi H Q =>
  ∃ F d z, Fz F H ∧ Rp K F x d ∧ slD d lo hi = some z ∧ ∀ v F' H', Nx T F H F' H' → Rp K F' v z → Q v H'
theorem x_sl : SlR X (rSlD X.K T) := by
  intro pins s σ H x v vl vu lo hi sl Q I rx hs pl pu h
  obtain ⟨F, d, z, hz, rd, hG, q⟩ := h
  cases rd with
  | tup h1 r1 =>
    cases hG
    refine sl_tupA pins s σ H _ v vl vu lo hi sl Q I rx hs pl pu ⟨_, _, rfl, hz.sub.st h1, fun hw => ?_, fun _ p hp => donep hz hp ntT q (rp_tup hz hp (r1.cut lo hi))⟩
    rw [r1.length] at hw
    rw [cut_whole hw] at q
    exact done0 hz q (.tup h1 r1)
  | lst h1 r1 =>
    cases hG
    exact sl_list pins s σ H _ v vl vu lo hi sl Q I rx hs pl pu ⟨_, _, rfl, SqL.of (hz.sub _ _ h1), fun p hp => donep hz hp ntL q (rp_lst hz hp (r1.cut lo hi))⟩
  | str x =>
    have hG : (if x.length ≤ sizeLine then some (D.str (cutS x lo hi)) else none) = some z := hG
    split at hG
    · rename_i hl
      cases hG
      exact sl_str pins s σ H _ v vl vu lo hi sl Q I rx hs pl pu ⟨x, rfl, hl, done0 hz q (.str _)⟩
    · cases hG
  | _ => cases hG
theorem e_sl {e : Expr} {lo hi : Option Expr} {f : Rho → Res D} {g h : Rho → Res (Option Int)} {p2 pos : Pos} (he : DE X T W e f) (hl : DO X T W lo g) (hh : DO X T W hi h) : DE X T W (.Subscript e (.Slice lo hi none p2) pos) (slc f g h) :=
  (pe_slice x_sl he hl hh).to fun σ H Q ⟨ρ, F, a, h⟩ => by
    refine ⟨ρ, F, a, (aft.bind (R := Rp X.K) h).imp fun d _ v F1 H1 _ _ q => ?_⟩
    obtain ⟨b, F2, _, n, rv, q⟩ := q
    refine ⟨ρ, F2, a.nx n, (aft.bind (R := fun _ a b => a = b) q).imp fun lo _ v' F3 H3 _ _ q => ?_⟩
    obtain ⟨lo', F4, _, n2, rl, q⟩ := q
    subst rl
    refine ⟨ρ, F4, a.nx (n.trans n2), (aft.bind (R := fun _ a b => a = b) q).imp fun hi _ v'' F5 H5 _ _ q => ?_⟩
    obtain ⟨hi', F6, _, n3, rh, q⟩ := q
    subst rh
    obtain ⟨z, hz, q⟩ := ofO_ok q
    exact ⟨F6, b, z, n3.z, rv.mono (n2.trans n3).f, hz, q⟩
end

/-! ### calls of built-ins -/
section
variable {X : Cx} {T : List (Addr × Str)} {W : WX}
theorem cal_to {K : PySem.W.Frag} {G : List D → Option D} {f : Rho → Res (List D)} {σ : L2.St} {H : Hp} {Q : VK} (h : tE K T W (cal G f) σ H Q) : tCB (rDn K T G) (tA K T W f) σ H Q := by
  obtain ⟨ρ, F, a, h⟩ := h
  refine ⟨ρ, F, a, (aft.bind (R := RpAll K) h).imp fun d _ v F1 H1 _ _ q => ?_⟩
  obtain ⟨b, F2, _, n, rv, q⟩ := q
  obtain ⟨z, hz, q⟩ := ofO_ok q
  exact ⟨F2, b, z, n.z, rv, hz, q⟩
theorem e_callB {id : String} {x : Str} {G : List D → Option D} {e : Expr} {es : List Expr} {p pos : Pos} {f : Rho → Res (List D)} (hc : CallR X (.builtin id) (rDn X.K T G)) (hg : Gl X x) (hm : X.mg x = none) (hv : bootBuiltins x = some (.builtin id)) (ha : DA X T W (e :: es) f)
    (hn : x ≠ "__name__" := by decide) (hdb : (x == ("__debug__" : Str)) = false := by decide) (hpl : starEach (e :: es) X.env = (false, eval e X.env) :: starEach es X.env := by rfl) (hpl2 : (backTo pos (starEach es X.env)).any (·.1) = false := by rfl) : DE X T W (.Call (.Name x p) (e :: es) [] pos) (cal G f) :=
  (pe_callB hc hg hm hv ha hn hdb hpl hpl2).to fun _ _ _ h => cal_to h
theorem e_callTy {T' : String} {x : Str} {G : List D → Option D} {e : Expr} {es : List Expr} {p pos : Pos} {f : Rho → Res (List D)} (hc : CallR X (.type T') (rDn X.K T G)) (hg : Gl X x) (hm : X.mg x = none) (hv : bootBuiltins x = some (.type T')) (ha : DA X T W (e :: es) f)
    (hn : x ≠ "__name__" := by decide) (hdb : (x == ("__debug__" : Str)) = false := by decide) (hpl : starEach (e :: es) X.env = (false, eval e X.env) :: starEach es X.env := by rfl) (hpl2 : (backTo pos (starEach es X.env)).any (·.1) = false := by rfl) : DE X T W (.Call (.Name x p) (e :: es) [] pos) (cal G f) :=
  (pe_callTy hc hg hm hv ha hn hdb hpl hpl2).to fun _ _ _ h => cal_to h
end
def lenD : List D → Option D
  | [.str x] => if x.length ≤ sizeLine then some (.int x.length) else none
  | [.tup xs] => some (.int xs.length)
  | [.lst xs] => some (.int xs.length)
  | [.arr ns] => some (.int ns.length)
  | _ => none
def absD : List D → Option D
  | [.int i] => some (.int (if i < 0 then -i else i))
  | _ => none
def maxD : List D → Option D
  | [.int i, .int j] => some (.int (if j > i then j else i))
  | _ => none
def minD : List D → Option D
  | [.int i, .int j] => some (.int (if j < i then j else i))
  | _ => none
def intD : List D → Option D
  | [.int i] => some (.int i)
  | [.bl k] => some (.int (if k then 1 else 0))
  | [.str x] => if x.length ≤ 640 then (PySem.intText? x).map .int else none
  | _ => none
def tupD : List D → Option D
  | [.lst xs] => some (.tup xs)
  | [.tup xs] => some (.tup xs)
  | _ => none
def tyD : D → Option String
  | .non => some "NoneType"
  | .bl _ => some "bool"
  | .int _ => some "int"
  | .str _ => some "str"
  | .lst _ => some "list"
  | .tup _ => some "tuple"
  | _ => none
def isiD : List D → Option D
  | [d, .ty n] => (tyD d).bind fun t => (kitB t n).map .bl
  | _ => none
section
variable {X : Cx} {T : List (Addr × Str)} {W : WX}
theorem all1 {K : PySem.W.Frag} {F : Hp} {xs : List V} {d : D} (r : RpAll K F xs [d]) : ∃ v, xs = [v] ∧ Rp K F v d := by
  cases r with
  | cons h t => cases t; exact ⟨_, rfl, h⟩
theorem all2 {K : PySem.W.Frag} {F : Hp} {xs : List V} {d e : D} (r : RpAll K F xs [d, e]) : ∃ v w, xs = [v, w] ∧ Rp K F v d ∧ Rp K F w e := by
  cases r with
  | cons h t =>
    obtain ⟨w, rfl, h2⟩ := all1 t
    exact ⟨_, w, rfl, h, h2⟩
theorem c_len : CallR X (.builtin "len") (rDn X.K T lenD) := by
  intro pins s σ H xs us Q I r h
  obtain ⟨F, ds, z, hz, rs, hG, q⟩ := h
  unfold lenD at hG
  split at hG
  · rename_i x
    obtain ⟨v, rfl, rv⟩ := all1 rs
    cases rv
    split at hG
    · rename_i hl
      cases hG
      exact call_len_str pins s σ H _ us Q I r ⟨x, rfl, hl, done0 hz q (.int _)⟩
    · cases hG
  · obtain ⟨v, rfl, rv⟩ := all1 rs
    cases hG
    cases rv with
    | tup h1 r1 => exact call_len_seq pins s σ H _ us Q I r ⟨_, _, rfl, .inr (hz.sub.st h1), by rw [r1.length]; exact done0 hz q (.int _)⟩
  · obtain ⟨v, rfl, rv⟩ := all1 rs
    cases hG
    cases rv with
    | lst h1 r1 => exact call_len_seq pins s σ H _ us Q I r ⟨_, _, rfl, .inl (SqL.of (hz.sub _ _ h1)), by rw [r1.length]; exact done0 hz q (.int _)⟩
  · obtain ⟨v, rfl, rv⟩ := all1 rs
    cases hG
    cases rv with
    | arr h1 => exact call_len_seq pins s σ H _ us Q I r ⟨_, _, rfl, .inl (hz.sub.sl h1), by rw [List.length_map]; exact done0 hz q (.int _)⟩
  · cases hG
theorem c_int : CallR X (.type "int") (rDn X.K T intD) := by
  intro pins s σ H xs us Q I r h
  obtain ⟨F, ds, z, hz, rs, hG, q⟩ := h
  unfold intD at hG
  split at hG
  · obtain ⟨v, rfl, rv⟩ := all1 rs
    cases rv
    cases hG
    exact call_int1 pins s σ H _ us Q I r (.inl ⟨_, rfl, done0 hz q (.int _)⟩)
  · obtain ⟨v, rfl, rv⟩ := all1 rs
    cases rv
    cases hG
    exact call_int1 pins s σ H _ us Q I r (.inr ⟨_, rfl, done0 hz q (.int _)⟩)
  · rename_i x
    obtain ⟨v, rfl, rv⟩ := all1 rs
    cases rv
    split at hG
    · rename_i hl
      cases e : PySem.intText? x with
      | none => rw [e] at hG; cases hG
      | some n =>
        rw [e] at hG
        cases hG
        exact call_int_str pins s σ H _ us Q I r ⟨x, n, rfl, e, hl, done0 hz q (.int _)⟩
    · cases hG
  · cases hG
theorem c_tup : CallR X (.type "tuple") (rDn X.K T tupD) := by
  intro pins s σ H xs us Q I r h
  obtain ⟨F, ds, z, hz, rs, hG, q⟩ := h
  unfold tupD at hG
  split at hG
  · obtain ⟨v, rfl, rv⟩ := all1 rs
    cases hG
    cases rv with
    | lst h1 r1 => exact call_tuple_of pins s σ H _ us Q I r ⟨_, _, rfl, .inl ⟨SqL.of (hz.sub _ _ h1), fun p hp => donep hz hp ntT q (rp_tup hz hp r1)⟩⟩
  · obtain ⟨v, rfl, rv⟩ := all1 rs
    cases hG
    cases rv with
    | tup h1 r1 => exact call_tuple_of pins s σ H _ us Q I r ⟨_, _, rfl, .inr ⟨hz.sub.st h1, done0 hz q (.tup h1 r1)⟩⟩
  · cases hG
theorem ty_of {K : PySem.W.Frag} {F H : Hp} {v : V} {d : D} {t : String} (hz : Fz F H) (r : Rp K F v d) (h : tyD d = some t) : TyX K H v (.type t) := by
  cases r with
  | non => cases h; exact .base .non
  | bl b => cases h; exact .base (.bl b)
  | int i => cases h; exact .base (.int i)
  | str x => cases h; exact .base (.str x)
  | lst h1 _ => cases h; exact .base (.lst (hz.sub _ _ h1))
  | tup h1 _ =>
    cases h
    rcases h1 with (h1 | ⟨o, h1⟩) | ⟨o, its, n, hk, hc, _⟩
    · exact .base (.tup (hz.sub _ _ h1))
    · exact .fTuple (hz.sub _ _ h1)
    · exact .kTuple hk hc
  | _ => cases h
theorem c_isi : CallR X (.builtin "isinstance") (rDn X.K T isiD) := by
  intro pins s σ H xs us Q I r h
  obtain ⟨F, ds, z, hz, rs, hG, q⟩ := h
  unfold isiD at hG
  split at hG
  · rename_i d n
    obtain ⟨v, w, rfl, rv, rw'⟩ := all2 rs
    cases rw'
    cases e : tyD d with
    | none => rw [e] at hG; cases hG
    | some t =>
      rw [e] at hG
      have hG : (kitB t n).map D.bl = some z := hG
      cases e2 : kitB t n with
      | none => rw [e2] at hG; cases hG
      | some b =>
        rw [e2] at hG
        cases hG
        exact call_isi pins s σ H _ us Q I r ⟨v, _, _, _, b, rfl, .ty n, ty_of hz rv e, kit_ty e2, done0 hz q (.bl b)⟩
  · cases hG
end
end DN
namespace DN
open PySem PySem.Spec PyProof.Rows L2
open LamX (Tabs ExtN)

/-! ### == and != of data -/
def flatD : D → Bool
  | .non => true
  | .bl _ => true
  | .int _ => true
  | .str _ => true
  | _ => false
mutual
def eqd : D → D → Bool
  | .non, .non => true
  | .bl a, .bl b => a == b
  | .bl a, .int j => (if a then 1 else 0) == j
  | .int i, .bl b => i == (if b then 1 else 0)
  | .int i, .int j => i == j
  | .str x, .str y => x == y
  | .lst xs, .lst ys => eqds xs ys
  | .tup xs, .tup ys => eqds xs ys
  | _, _ => false
def eqds : List D → List D → Bool
  | [], [] => true
  | x :: xs, y :: ys => eqd x y && eqds xs ys
  | _, _ => false
end
mutual
/-- plain data that is no deeper than n -/
def plain : Nat → D → Bool
  | _, .non => true
  | _, .bl _ => true
  | _, .int _ => true
  | _, .str x => PyData.strOk x
  | n + 1, .lst xs => plains n xs
  | n + 1, .tup xs => plains n xs
  | _, _ => false
def plains : Nat → List D → Bool
  | _, [] => true
  | n, x :: xs => plain n x && plains n xs
end
mutual
def pyO : D → PyData
  | .non => .none
  | .bl b => .bool b
  | .int i => .int i
  | .str x => .str x
  | .lst xs => .list (pyA xs)
  | .tup xs => .tuple (pyA xs)
  | _ => .none
def pyA : List D → List PyData
  | [] => []
  | x :: xs => pyO x :: pyA xs
end
mutual
theorem plain_py {K : PySem.W.Frag} {H : Hp} : ∀ (n : Nat) (d : D) (v : V), plain n d = true → Rp K H v d → Dp K H v (pyO d) ∧ (pyO d).canLay0 = true ∧ (pyO d).depth ≤ n
  | n, .non, _, _, .non => by
    unfold pyO
    exact ⟨.non, by simp [PyData.canLay0], by simp [PyData.depth]⟩
  | n, .bl b, _, _, .bl _ => by
    unfold pyO
    exact ⟨.bl b, by simp [PyData.canLay0], by simp [PyData.depth]⟩
  | n, .int b, _, _, .int _ => by
    unfold pyO
    exact ⟨.int b, by simp [PyData.canLay0], by simp [PyData.depth]⟩
  | n, .str b, _, h, .str _ => by
    unfold plain at h
    unfold pyO
    exact ⟨.str b, by simpa [PyData.canLay0] using h, by simp [PyData.depth]⟩
  | n + 1, .lst xs, _, h, .lst h1 r => by
    unfold plain at h
    obtain ⟨a, b, c⟩ := plains_py n xs _ h r
    unfold pyO
    exact ⟨.lst (SqL.of h1) a, by simpa [PyData.canLay0] using b, by simp only [PyData.depth]; omega⟩
  | n + 1, .tup xs, _, h, .tup h1 r => by
    unfold plain at h
    obtain ⟨a, b, c⟩ := plains_py n xs _ h r
    unfold pyO
    exact ⟨.tup h1 a, by simpa [PyData.canLay0] using b, by simp only [PyData.depth]; omega⟩
  | 0, .lst xs, _, h, _ => by simp [plain] at h
  | 0, .tup xs, _, h, _ => by simp [plain] at h
  | _, .fn _, _, h, _ => by simp [plain] at h
  | _, .ty _, _, h, _ => by simp [plain] at h
  | _, .dK _, _, h, _ => by simp [plain] at h
  | _, .dT _, _, h, _ => by simp [plain] at h
  | _, .arr _, _, h, _ => by simp [plain] at h
  | _, .pro _, _, h, _ => by simp [plain] at h
  | _, .dic _ _ _ _, _, h, _ => by simp [plain] at h
  | _, .adr _, _, h, _ => by simp [plain] at h
  | _, .ins _ _ _, _, h, _ => by simp [plain] at h
  | _, .tab _ _ _, _, h, _ => by simp [plain] at h
theorem plains_py {K : PySem.W.Frag} {H : Hp} : ∀ (n : Nat) (ds : List D) (vs : List V), plains n ds = true → RpAll K H vs ds → DpAll K H vs (pyA ds) ∧ PyData.canLayAll0 (pyA ds) = true ∧ PyData.depthAll (pyA ds) ≤ n
  | n, [], _, _, .nil => by
    unfold pyA
    exact ⟨.nil, by simp [PyData.canLayAll0], by simp [PyData.depthAll]⟩
  | n, d :: ds, _, h, .cons r t => by
    unfold plains at h
    rw [Bool.and_eq_true] at h
    obtain ⟨a, b, c⟩ := plain_py n d _ h.1 r
    obtain ⟨a2, b2, c2⟩ := plains_py n ds _ h.2 t
    unfold pyA
    exact ⟨.cons a a2, by simp [PyData.canLayAll0, b, b2], by simp only [PyData.depthAll]; omega⟩
end
mutual
theorem eqd_py : ∀ (n m : Nat) (d e : D), plain n d = true → plain m e = true → PyData.eqv (pyO d) (pyO e) = eqd d e
  | n, m, d, e, hd, he => by
    cases d <;> cases e <;> first
      | (simp only [pyO, PyData.eqv, eqd]; done)
      | (cases n <;> simp [plain] at hd; done)
      | (cases m <;> simp [plain] at he; done)
      | (cases n with
         | zero => simp [plain] at hd
         | succ n =>
           cases m with
           | zero => simp [plain] at he
           | succ m =>
             unfold plain at hd he
             simp only [pyO, PyData.eqv, eqd]
             exact eqds_py n m _ _ hd he)
theorem eqds_py : ∀ (n m : Nat) (d e : List D), plains n d = true → plains m e = true → PyData.eqvAll (pyA d) (pyA e) = eqds d e
  | n, m, [], [], _, _ => by simp [pyA, PyData.eqvAll, eqds]
  | n, m, [], _ :: _, _, _ => by simp [pyA, PyData.eqvAll, eqds]
  | n, m, _ :: _, [], _, _ => by simp [pyA, PyData.eqvAll, eqds]
  | n, m, x :: xs, y :: ys, hd, he => by
    unfold plains at hd he
    rw [Bool.and_eq_true] at hd he
    simp only [pyA, PyData.eqvAll, eqds]
    rw [eqd_py n m x y hd.1 he.1, eqds_py n m xs ys hd.2 he.2]
end
def eqOk (d e : D) : Bool := (flatD d && flatD e) || (plain 64 d && plain 64 e)
def eqD (d e : D) : Option D := if eqOk d e = true then some (.bl (eqd d e)) else none
def neD (d e : D) : Option D := if eqOk d e = true then some (.bl (!eqd d e)) else none
section
variable {X : Cx} {T : List (Addr × Str)} {W : WX}
/-- either two scalars that == tells apart, or plain data -/
theorem eq_cases {K : PySem.W.Frag} {F H : Hp} {x y : V} {d e : D} (hz : Fz F H) (rd : Rp K F x d) (re : Rp K F y e) (h : eqOk d e = true) :
    (scal x y = true ∧ decide (x = y) = eqd d e) ∨ (∃ a b, Dp K H x a ∧ Dp K H y b ∧ SeqAt.shaped a = true ∧ SeqAt.shaped b = true ∧ PyData.eqv a b = eqd d e) := by
  have deep : plain 64 d = true → plain 64 e = true → ∃ a b, Dp K H x a ∧ Dp K H y b ∧ SeqAt.shaped a = true ∧ SeqAt.shaped b = true ∧ PyData.eqv a b = eqd d e := fun hd he => by
    obtain ⟨a1, a2, a3⟩ := plain_py 64 d x hd (rd.mono hz.sub)
    obtain ⟨b1, b2, b3⟩ := plain_py 64 e y he (re.mono hz.sub)
    refine ⟨_, _, a1, b1, ?_, ?_, eqd_py 64 64 d e hd he⟩
    · unfold SeqAt.shaped
      rw [a2, decide_eq_true a3] <;> rfl
    · unfold SeqAt.shaped
      rw [b2, decide_eq_true b3] <;> rfl
  unfold eqOk at h
  rw [Bool.or_eq_true, Bool.and_eq_true, Bool.and_eq_true] at h
  rcases h with ⟨h1, h2⟩ | ⟨h1, h2⟩
  · cases rd <;> cases re <;> first
      | (cases h1; done)
      | (cases h2; done)
      | (refine .inr (deep ?_ ?_) <;> simp [plain] <;> done)
      | (refine .inl ⟨rfl, ?_⟩; simp only [eqd]; first | exact dec_str | (simp; done))
  · exact .inr (deep h1 h2)
theorem o_eq (hu : X.A.units + 64 < cLine) : OpR X (compareOp .Eq) (rD2 X.K T eqD) := by
  intro pins s σ H x y v u Q I rx ry h
  obtain ⟨F, d, e, z, hz, rd, re, hG, q⟩ := h
  unfold eqD at hG
  split at hG
  · rename_i hk
    cases hG
    rcases eq_cases hz rd re hk with ⟨h1, h2⟩ | ⟨a, b, h1, h2, h3, h4, h5⟩
    · exact op_eq pins s σ H x y v u Q I rx ry ⟨h1, by rw [h2]; exact done0 hz q (.bl _)⟩
    · exact op_eqD hu pins s σ H x y v u Q I rx ry ⟨a, b, h1, h2, h3, h4, by rw [h5]; exact done0 hz q (.bl _)⟩
  · cases hG
theorem o_ne (hu : X.A.units + 64 < cLine) : OpR X (compareOp .NotEq) (rD2 X.K T neD) := by
  intro pins s σ H x y v u Q I rx ry h
  obtain ⟨F, d, e, z, hz, rd, re, hG, q⟩ := h
  unfold neD at hG
  split at hG
  · rename_i hk
    cases hG
    rcases eq_cases hz rd re hk with ⟨h1, h2⟩ | ⟨a, b, h1, h2, h3, h4, h5⟩
    · exact op_ne pins s σ H x y v u Q I rx ry ⟨h1, by rw [h2]; exact done0 hz q (.bl _)⟩
    · exact op_neD hu pins s σ H x y v u Q I rx ry ⟨a, b, h1, h2, h3, h4, by rw [h5]; exact done0 hz q (.bl _)⟩
  · cases hG
end

/-! ### in, not in -/
def hasS (x y : Str) : Bool := if x.cps.size = 1 then decide (x.cps.getD 0 0 ∈ y.cps.toList) else !(Builtin.Str.occurrences y x 0 y.length 1).isEmpty
def inL (d : D) (xs : List D) : Option Bool := if (flatD d && xs.all flatD) = true then some (xs.any fun y => eqd y d) else if (plain 60 d && plains 60 xs) = true then some (xs.any fun y => eqd y d) else none
def inB : D → D → Option Bool
  | .str x, .str y => some (hasS x y)
  | d, .tup xs => inL d xs
  | d, .lst xs => inL d xs
  | _, _ => none
def inD (d e : D) : Option D := (inB d e).map .bl
section
variable {X : Cx} {T : List (Addr × Str)} {W : WX}
theorem flat_rp {K : PySem.W.Frag} {F : Hp} {v : V} {d : D} (r : Rp K F v d) (h : flatD d = true) : flatV v = true := by
  cases r <;> first | rfl | cases h
theorem flat_all {K : PySem.W.Frag} {F : Hp} : ∀ {vs : List V} {ds : List D}, RpAll K F vs ds → ds.all flatD = true → vs.all flatV = true
  | _, _, .nil, _ => rfl
  | _, _, .cons r t, h => by
    rw [List.all_cons, Bool.and_eq_true] at h
    rw [List.all_cons, flat_rp r h.1, flat_all t h.2] <;> rfl
theorem eqV_eqd {K : PySem.W.Frag} {F : Hp} {v w : V} {d e : D} (r : Rp K F v d) (q : Rp K F w e) (h : flatD d = true) (h2 : flatD e = true) : eqV v w = eqd d e := by
  cases r <;> first
    | (cases h; done)
    | (cases q <;> first | (cases h2; done) | (simp [eqV, eqd]; done))
theorem inV_eq {K : PySem.W.Frag} {F : Hp} {w : V} {e : D} (q : Rp K F w e) (h2 : flatD e = true) : ∀ {vs : List V} {ds : List D}, RpAll K F vs ds → ds.all flatD = true → inV w vs = ds.any fun y => eqd y e
  | _, _, .nil, _ => rfl
  | v :: vs, d :: ds, .cons r t, h => by
    rw [List.all_cons, Bool.and_eq_true] at h
    have ih := inV_eq q h2 t h.2
    unfold inV at ih ⊢
    rw [List.any_cons, List.any_cons, ih, eqV_eqd r q h.1 h2]
theorem one_of {x : Str} (h : x.cps.size = 1) : x = ⟨#[x.cps.getD 0 0]⟩ := by
  obtain ⟨cps⟩ := x
  simp only at h ⊢
  congr 1
  apply Array.ext
  · simp [h]
  · intro i h1 h2
    have : i = 0 := by omega
    subst this
    simp [Array.getD, h]
theorem any_py (d : D) (hd : plain 60 d = true) : ∀ ds : List D, plains 60 ds = true → ((pyA ds).any fun z => PyData.eqv z (pyO d)) = ds.any fun y => eqd y d
  | [], _ => rfl
  | y :: ds, h => by
    have h : (plain 60 y && plains 60 ds) = true := h
    rw [Bool.and_eq_true] at h
    show (PyData.eqv (pyO y) (pyO d) || (pyA ds).any fun z => PyData.eqv z (pyO d)) = _
    rw [eqd_py 60 60 y d h.1 hd, any_py d hd ds h.2]
    rfl
theorem in_deep {pins : List (Addr × Obj)} {s : Shared} {σ : L2.St} {H F : Hp} {x : V} {v u : Value} {a : Addr} {xs : List V} {d : D} {ds : List D} {Q : VK} (hu : X.A.units + 64 < cLine) (I : Inv X pins σ H s) (hz : Fz F H) (rx : RelV x v) (ry : RelV (.ref a) u) (rd : Rp X.K F x d) (hs : SqT X.K F a xs ∨ F a = some (.lst xs)) (r1 : RpAll X.K F xs ds) (hd : plain 60 d = true) (hds : plains 60 ds = true) :
    (Q (.bl (ds.any fun y => eqd y d)) H → wpAny (model X.prog X.w) X.A (compareOp .In v u) (EP X pins σ Q) X.xe s) ∧ (Q (.bl (!ds.any fun y => eqd y d)) H → wpAny (model X.prog X.w) X.A (compareOp .NotIn v u) (EP X pins σ Q) X.xe s) := by
  obtain ⟨a1, a2, a3⟩ := plain_py 60 d x hd (rd.mono hz.sub)
  obtain ⟨b1, b2, b3⟩ := plains_py 60 ds xs hds (r1.mono hz.sub)
  obtain ⟨as, q1⟩ := Dp.reads I _ x v a1 rx
  have room : X.A.units + 1 + min (PyData.depthAll (pyA ds)) (pyO d).depth < cLine := by omega
  rw [← any_py d hd ds hds]
  rcases hs with hs | hs
  · have c1 : Dp X.K H (.ref a) (.tuple (pyA ds)) := Dp.tup (hz.sub.st hs) b1
    obtain ⟨bs, q2⟩ := Dp.reads I _ (.ref a) u c1 ry
    exact ⟨fun q => SeqAt.in_tuple_reads q2 q1 b2 a2 room ⟨.bl _, H, I, rfl, q⟩, fun q => SeqAt.notIn_tuple_reads q2 q1 b2 a2 room ⟨.bl _, H, I, rfl, q⟩⟩
  · have c1 : Dp X.K H (.ref a) (.list (pyA ds)) := Dp.lst (SqL.of (hz.sub _ _ hs)) b1
    obtain ⟨bs, q2⟩ := Dp.reads I _ (.ref a) u c1 ry
    exact ⟨fun q => SeqAt.in_list_reads q2 q1 b2 a2 room ⟨.bl _, H, I, rfl, q⟩, fun q => SeqAt.notIn_list_reads q2 q1 b2 a2 room ⟨.bl _, H, I, rfl, q⟩⟩
theorem o_in (hu : X.A.units + 64 < cLine) : OpR X (compareOp .In) (rD2 X.K T inD) := by
  intro pins s σ H x y v u Q I rx ry h
  obtain ⟨F, d, e, z, hz, rd, re, hG, q⟩ := h
  unfold inD at hG
  cases hb : inB d e with
  | none => rw [hb] at hG; cases hG
  | some b =>
    rw [hb] at hG
    cases hG
    cases re with
    | str y =>
      cases rd with
      | str x =>
        have hb : some (hasS x y) = some b := hb
        unfold hasS at hb
        split at hb
        · rename_i h1
          cases hb
          exact op_in_sign pins s σ H _ _ v u Q I rx ry ⟨x.cps.getD 0 0, y, congrArg V.str (one_of h1), rfl, done0 hz q (.bl _)⟩
        · cases hb
          exact op_in_str pins s σ H _ _ v u Q I rx ry ⟨x, y, rfl, rfl, done0 hz q (.bl _)⟩
      | _ => cases hb
    | tup h1 r1 =>
      rename_i a xs ds
      have hb : inL d ds = some b := by
        cases d <;> exact hb
      unfold inL at hb
      split at hb
      · rename_i hf
        rw [Bool.and_eq_true] at hf
        cases hb
        refine op_in_seq pins s σ H _ _ v u Q I rx ry ⟨a, xs, rfl, .inr (hz.sub.st h1), flat_rp rd hf.1, flat_all r1 hf.2, ?_⟩
        rw [inV_eq rd hf.1 r1 hf.2]
        exact done0 hz q (.bl _)
      · split at hb
        · rename_i hf
          rw [Bool.and_eq_true] at hf
          cases hb
          exact (in_deep hu I hz rx ry rd (.inl h1) r1 hf.1 hf.2).1 (done0 hz q (.bl _))
        · cases hb
    | lst h1 r1 =>
      rename_i a xs ds
      have hb : inL d ds = some b := by
        cases d <;> exact hb
      unfold inL at hb
      split at hb
      · rename_i hf
        rw [Bool.and_eq_true] at hf
        cases hb
        refine op_in_seq pins s σ H _ _ v u Q I rx ry ⟨a, xs, rfl, .inl (SqL.of (hz.sub _ _ h1)), flat_rp rd hf.1, flat_all r1 hf.2, ?_⟩
        rw [inV_eq rd hf.1 r1 hf.2]
        exact done0 hz q (.bl _)
      · split at hb
        · rename_i hf
          rw [Bool.and_eq_true] at hf
          cases hb
          exact (in_deep hu I hz rx ry rd (.inr h1) r1 hf.1 hf.2).1 (done0 hz q (.bl _))
        · cases hb
    | _ => cases rd <;> cases hb
end
end DN
namespace DN
open PySem PySem.Spec PyProof.Rows L2
open LamX (Tabs ExtN)

/-! ### statements -/
inductive SR where
  | nx (ρ : Rho) | rt (d : D) | bk (ρ : Rho) | ct (ρ : Rho) | ex (n : Str) (ρ : Rho) | bad
def bindS {α : Type} (r : Res α) (ρ : Rho) (k : α → SR) : SR := match r with
  | .ok a => k a
  | .ex n => .ex n ρ
  | .bad => .bad
/-- the frame's own objects are new since the entry -/
def Ow (H0 : Hp) (σ : L2.St) (ρ : Rho) : Prop := ∀ (i : Nat) (d : D) (p : Addr), ρ[i]? = some (En.o d) → σ[i]? = some (some (V.ref p)) → ∀ o, H0 p = some o → ∃ ps, o = .tbl ps
structure Sg (K : PySem.W.Frag) (T : List (Addr × Str)) (F0 H0 F H : Hp) (σ : L2.St) (ρ : Rho) : Prop where
  at_ : At K T F H σ ρ
  nx : Nx T F0 H0 F H
  ow : Ow H0 σ ρ
def aftS (K : PySem.W.Frag) (T : List (Addr × Str)) (W : WX) (F0 H0 F : Hp) (Z : Ends) : SR → Prop
  | .nx ρ => ∀ σ F' H', Sg K T F0 H0 F' H' σ ρ → Sub F F' → Z.nx σ H'
  | .bk ρ => ∀ σ F' H', Sg K T F0 H0 F' H' σ ρ → Sub F F' → Z.bk σ H'
  | .ct ρ => ∀ σ F' H', Sg K T F0 H0 F' H' σ ρ → Sub F F' → Z.ct σ H'
  | .rt d => ∀ v F' H', Nx T F0 H0 F' H' → Rp K F' v d → Z.rt v H'
  | .ex n ρ => ∀ σ F' H', Sg K T F0 H0 F' H' σ ρ → Sub F F' → W (.ref (He.ga K n)) none σ H'
  | .bad => False
def tS (K : PySem.W.Frag) (T : List (Addr × Str)) (W : WX) (F0 H0 : Hp) (s : Rho → SR) : TS := fun Z σ H => ∃ ρ F, Sg K T F0 H0 F H σ ρ ∧ aftS K T W F0 H0 F Z (s ρ)
abbrev DS (X : Cx) (T : List (Addr × Str)) (W : WX) (F0 H0 : Hp) (st : Stmt) (s : Rho → SR) : Prop := PS X st (tS X.K T W F0 H0 s)
abbrev DSs (X : Cx) (T : List (Addr × Str)) (W : WX) (F0 H0 : Hp) (st : List Stmt) (s : Rho → SR) : Prop := PSs X st (tS X.K T W F0 H0 s)
section
variable {K : PySem.W.Frag} {T : List (Addr × Str)} {W : WX} {F0 H0 F H F1 H1 : Hp} {σ : L2.St} {ρ : Rho} {Z : Ends}
theorem Sg.step (g : Sg K T F0 H0 F H σ ρ) (n : Nx T F H F1 H1) : Sg K T F0 H0 F1 H1 σ ρ := ⟨g.at_.nx n, g.nx.trans n, g.ow⟩
theorem aftS.mono {r : SR} (e : Sub F F1) (h : aftS K T W F0 H0 F Z r) : aftS K T W F0 H0 F1 Z r := by
  cases r with
  | nx ρ => exact fun σ F' H' g s => h σ F' H' g (e.trans s)
  | bk ρ => exact fun σ F' H' g s => h σ F' H' g (e.trans s)
  | ct ρ => exact fun σ F' H' g s => h σ F' H' g (e.trans s)
  | ex n ρ => exact fun σ F' H' g s => h σ F' H' g (e.trans s)
  | rt d => exact h
  | bad => exact h
theorem aftS.bind {α β : Type} {R : Hp → α → β → Prop} {r : Res β} {k : β → SR} (g : Sg K T F0 H0 F H σ ρ) (h : aftS K T W F0 H0 F Z (bindS r ρ k)) :
    aft R K T W σ F H (fun a H1 => ∃ b F1, r = .ok b ∧ Nx T F H F1 H1 ∧ Sg K T F0 H0 F1 H1 σ ρ ∧ R F1 a b ∧ aftS K T W F0 H0 F1 Z (k b)) r := by
  cases r with
  | ok b => exact fun a F2 H2 n ra => ⟨b, F2, rfl, n, g.step n, ra, aftS.mono n.f h⟩
  | ex m => exact fun F' H' n => h σ F' H' (g.step n) n.f
  | bad => exact h
theorem Ow.set {i : Nat} {v : V} {d : D} (o : Ow H0 σ ρ) : Ow H0 (σ.set i (some v)) (ρ.set i (.z d)) := fun j e p h1 h2 => by
  rw [List.getElem?_set] at h1 h2
  by_cases hij : i = j
  · rw [if_pos hij] at h1
    split at h1 <;> cases h1
  · rw [if_neg hij] at h1 h2
    exact o j e p h1 h2
end
def sskip : Rho → SR := fun ρ => .nx ρ
def sseq (s t : Rho → SR) : Rho → SR := fun ρ => match s ρ with
  | .nx ρ' => t ρ'
  | r => r
def sret (f : Rho → Res D) : Rho → SR := fun ρ => bindS (f ρ) ρ .rt
def sif (c : Rho → Res Bool) (s t : Rho → SR) : Rho → SR := fun ρ => bindS (c ρ) ρ fun b => if b = true then s ρ else t ρ
/-- targets -/
abbrev Tg := Rho → D → Option Rho
abbrev Tgs := Rho → List D → Option Rho
def gn (i : Nat) : Tg := fun ρ d => some (ρ.set i (.z d))
def gsn : Tgs := fun ρ ds => match ds with
  | [] => some ρ
  | _ => none
def gsc (g : Tg) (h : Tgs) : Tgs := fun ρ ds => match ds with
  | d :: r => (g ρ d).bind fun ρ' => h ρ' r
  | [] => none
def gt (n : Nat) (h : Tgs) : Tg := fun ρ d => match d with
  | .tup ds => if ds.length = n then h ρ ds else none
  | .lst ds => if ds.length = n then h ρ ds else none
  | _ => none
def sasg (f : Rho → Res D) (g : Tg) : Rho → SR := fun ρ => bindS (f ρ) ρ fun d => match g ρ d with
  | some ρ' => .nx ρ'
  | none => .bad
def tGd (K : PySem.W.Frag) (T : List (Addr × Str)) (g : Tg) : TG := fun v σ H Q => ∃ ρ F d ρ', At K T F H σ ρ ∧ Rp K F v d ∧ g ρ d = some ρ' ∧ ∀ σ', At K T F H σ' ρ' → (∀ H0, Ow H0 σ ρ → Ow H0 σ' ρ') → Q σ' H
def tGs (K : PySem.W.Frag) (T : List (Addr × Str)) (g : Tgs) : TGs := fun vs σ H Q => ∃ ρ F ds ρ', At K T F H σ ρ ∧ RpAll K F vs ds ∧ g ρ ds = some ρ' ∧ ∀ σ', At K T F H σ' ρ' → (∀ H0, Ow H0 σ ρ → Ow H0 σ' ρ') → Q σ' H
theorem _root_.L2.PG.to {X : Cx} {e : Expr} {t u : TG} (h : PG X e t) (k : ∀ v σ H Q, u v σ H Q → t v σ H Q) : PG X e u := ⟨fun pins s σ H v w Q I r q => h.run pins s σ H v w Q I r (k v σ H Q q)⟩
theorem _root_.L2.PG.or {X : Cx} {e : Expr} {t u : TG} (h : PG X e t) (h2 : PG X e u) : PG X e (fun v σ H Q => t v σ H Q ∨ u v σ H Q) := ⟨fun pins s σ H v w Q I r q => q.elim (h.run pins s σ H v w Q I r) (h2.run pins s σ H v w Q I r)⟩
theorem _root_.L2.PGs.to {X : Cx} {es : List Expr} {t u : TGs} (h : PGs X es t) (k : ∀ v σ H Q, u v σ H Q → t v σ H Q) : PGs X es u := ⟨fun pins s σ H v w Q I r q => h.run pins s σ H v w Q I r (k v σ H Q q)⟩
section
variable {X : Cx} {T : List (Addr × Str)} {W : WX} {F0 H0 : Hp}
abbrev DG (X : Cx) (T : List (Addr × Str)) (e : Expr) (g : Tg) : Prop := PG X e (tGd X.K T g)
abbrev DGs (X : Cx) (T : List (Addr × Str)) (es : List Expr) (g : Tgs) : Prop := PGs X es (tGs X.K T g)
theorem g_name {i : Nat} {e : Expr} (h : PG X e (gName i)) : DG X T e (gn i) := h.to fun v σ H Q ⟨ρ, F, d, ρ', a, r, hg, q⟩ => by
  cases hg
  exact q _ ⟨a.z, a.t, a.r.set r⟩ fun H0 o => o.set
theorem gs_nil : DGs X T [] gsn := pgs_nil.to fun v σ H Q ⟨ρ, F, d, ρ', a, r, hg, q⟩ => by
  cases d with
  | nil =>
    cases r
    cases hg
    exact ⟨rfl, q σ a fun _ o => o⟩
  | cons _ _ => cases hg
theorem gs_cons {e : Expr} {es : List Expr} {g : Tg} {h : Tgs} (h1 : DG X T e g) (h2 : DGs X T es h) (hs : (assignEach (e :: es) X.env).map (·.2) = assign e X.env :: (assignEach es X.env).map (·.2) := by rfl) : DGs X T (e :: es) (gsc g h) :=
  (pgs_cons h1 h2 hs).to fun v σ H Q ⟨ρ, F, d, ρ', a, r, hg, q⟩ => by
    cases d with
    | nil => cases hg
    | cons d ds =>
      cases r with
      | cons r1 r2 =>
        have hg : (g ρ d).bind (fun ρ' => h ρ' ds) = some ρ' := hg
        cases e1 : g ρ d with
        | none => rw [e1] at hg; cases hg
        | some ρ1 =>
          rw [e1] at hg
          have hg : h ρ1 ds = some ρ' := hg
          refine ⟨_, _, rfl, ρ, F, d, ρ1, a, r1, e1, fun σ1 a1 o1 => ?_⟩
          exact ⟨ρ1, F, ds, ρ', a1, r2, hg, fun σ2 a2 o2 => q σ2 a2 fun H0 o => o2 H0 (o1 H0 o)⟩
theorem g_tup {es : List Expr} {k : Nat} {pos : Pos} {h : Tgs} {n : Nat} (hc : X.calm = true) (h1 : DGs X T es h) (hn : (assignEach es X.env).length = n := by rfl) (hst : (assignEach es X.env).findIdx? (·.1) = none := by rfl) : DG X T (.Tuple es k pos) (gt n h) :=
  (PG.or (pg_tup hc h1 hn hst) (pg_unl hc h1 hn hst)).to fun v σ H Q ⟨ρ, F, d, ρ', a, r, hg, q⟩ => by
    cases r with
    | @tup ad xs ds h1 r1 =>
      have hg : (if ds.length = n then h ρ ds else none) = some ρ' := hg
      split at hg
      · rename_i hl
        exact .inl ⟨ad, xs, rfl, a.z.sub.st h1, by rw [r1.length]; exact hl, ρ, F, ds, ρ', a, r1, hg, q⟩
      · cases hg
    | @lst ad xs ds h1 r1 =>
      have hg : (if ds.length = n then h ρ ds else none) = some ρ' := hg
      split at hg
      · rename_i hl
        exact .inr ⟨ad, xs, rfl, SqL.of (a.z.sub _ _ h1), by rw [r1.length]; exact hl, ρ, F, ds, ρ', a, r1, hg, q⟩
      · cases hg
    | _ => cases hg
theorem s_nil : DSs X T W F0 H0 [] sskip := pss_nil.to fun Z σ H ⟨ρ, F, g, h⟩ => h σ F H g (Sub.refl F)
theorem s_one {st : Stmt} {s : Rho → SR} (h : DS X T W F0 H0 st s) : DSs X T W F0 H0 [st] s := pss_one h
theorem s_cons {st : Stmt} {rest : List Stmt} {s t : Rho → SR} (h : DS X T W F0 H0 st s) (h2 : DSs X T W F0 H0 rest t) : DSs X T W F0 H0 (st :: rest) (sseq s t) :=
  (pss_cons h h2).to fun Z σ H ⟨ρ, F, g, h⟩ => by
    refine ⟨ρ, F, g, ?_⟩
    unfold sseq at h
    cases e : s ρ with
    | nx ρ' =>
      rw [e] at h
      exact fun σ' F' H' g' sb => ⟨ρ', F', g', aftS.mono sb h⟩
    | bk ρ' => rw [e] at h; exact h
    | ct ρ' => rw [e] at h; exact h
    | rt d => rw [e] at h; exact h
    | ex n ρ' => rw [e] at h; exact h
    | bad => rw [e] at h; exact h
theorem s_ret {e : Expr} {pos : Pos} {f : Rho → Res D} (h : DE X T W e f) : DS X T W F0 H0 (.Return (some e) pos) (sret f) :=
  (ps_ret h).to fun Z σ H ⟨ρ, F, g, h⟩ => by
    refine ⟨ρ, F, g.at_, (aftS.bind (R := Rp X.K) g h).imp fun d _ v F1 H1 _ _ q => ?_⟩
    obtain ⟨b, F2, _, n, g2, rv, q⟩ := q
    exact q v F2 H1 g2.nx rv
theorem s_if {c : Expr} {a b : List Stmt} {pos : Pos} {f : Rho → Res Bool} {s t : Rho → SR} (hc : DQ X T W c f) (ha : DSs X T W F0 H0 a s) (hb : DSs X T W F0 H0 b t) : DS X T W F0 H0 (.If c a b pos) (sif f s t) :=
  (ps_if hc ha hb).to fun Z σ H ⟨ρ, F, g, h⟩ => by
    refine ⟨ρ, F, g.at_, (aftS.bind (R := RBool) g h).imp fun d _ v F1 H1 _ _ q => ?_⟩
    obtain ⟨b, F2, _, n, g2, rv, q⟩ := q
    obtain rfl : v = b := rv
    cases v with
    | true => exact ⟨ρ, F2, g2, q⟩
    | false => exact ⟨ρ, F2, g2, q⟩
theorem sasg_to {f : Rho → Res D} {g : Tg} {K : PySem.W.Frag} {Z : Ends} {σ : L2.St} {H : Hp} (h : tS K T W F0 H0 (sasg f g) Z σ H) : tAsg (tE K T W f) (tGd K T g) Z σ H := by
  obtain ⟨ρ, F, gg, h⟩ := h
  refine ⟨ρ, F, gg.at_, (aftS.bind (R := Rp K) gg h).imp fun d _ v F1 H1 _ _ q => ?_⟩
  obtain ⟨b, F2, _, n, g2, rv, q⟩ := q
  cases e : g ρ b with
  | none => rw [e] at q; exact q.elim
  | some ρ' =>
    rw [e] at q
    exact ⟨ρ, F2, b, ρ', g2.at_, rv, e, fun σ' a' o' => q σ' F2 H1 ⟨a', g2.nx, o' H0 g2.ow⟩ (Sub.refl F2)⟩
theorem s_asg {tg e : Expr} {pos : Pos} {f : Rho → Res D} {g : Tg} (he : DE X T W e f) (hg : DG X T tg g) (hs : swapsWithSole [tg] e pos.line X.env = pure false := by rfl) (hw : swappedStores [tg] e X.env = pure none := by rfl)
    (h1 : (assignEach [tg] X.env).map (·.2) = [assign tg X.env] := by rfl) : DS X T W F0 H0 (.Assign [tg] e pos) (sasg f g) :=
  (ps_asg he hg hs hw h1).to fun Z σ H h => sasg_to h
end

/-! ### while -/
def whileD (c : Rho → Res Bool) (s : Rho → SR) : Nat → Rho → SR
  | 0, _ => .bad
  | n + 1, ρ => bindS (c ρ) ρ fun b => if b = true then (match s ρ with
    | .nx ρ' => whileD c s n ρ'
    | .ct ρ' => whileD c s n ρ'
    | .bk ρ' => .nx ρ'
    | r => r) else .nx ρ
section
variable {X : Cx} {T : List (Addr × Str)} {W : WX} {F0 H0 : Hp}
theorem s_while {c : Expr} {body : List Stmt} {pos : Pos} {f : Rho → Res Bool} {s : Rho → SR} (N : Nat) (hp : PassesOwn (model X.prog X.w) X.A X.env X.xe) (hc : DQ X T W c f) (hb : DSs X T W F0 H0 body s) : DS X T W F0 H0 (.While c body [] pos) (whileD f s N) :=
  (ps_while hp hc hb).to fun Z σ H ⟨ρ, F, g, h⟩ => by
    refine ⟨fun m σ H => ∃ ρ F', Sg X.K T F0 H0 F' H σ ρ ∧ aftS X.K T W F0 H0 F' Z (whileD f s m ρ), ⟨N, ρ, F, g, h⟩, ?_⟩
    rintro m σ H ⟨ρ, F1, g, h⟩
    cases m with
    | zero => exact h.elim
    | succ m =>
      refine ⟨ρ, F1, g.at_, (aftS.bind (R := RBool) g h).imp fun d _ v F2 H2 _ _ q => ?_⟩
      obtain ⟨b, F3, _, n, g2, rv, q⟩ := q
      obtain rfl : v = b := rv
      cases v with
      | false => exact q σ F3 H2 g2 (Sub.refl F3)
      | true =>
        refine ⟨fun σ' H' => ∃ ρ' F', Sg X.K T F0 H0 F' H' σ' ρ' ∧ aftS X.K T W F0 H0 F' Z (whileD f s m ρ'), fun σ' H' w => ⟨m, Nat.lt_succ_self m, w⟩, ρ, F3, g2, ?_⟩
        have q : aftS X.K T W F0 H0 F3 Z (match s ρ with
          | .nx ρ' => whileD f s m ρ'
          | .ct ρ' => whileD f s m ρ'
          | .bk ρ' => .nx ρ'
          | r => r) := q
        cases e : s ρ with
        | nx ρ' => rw [e] at q; exact fun σ' F' H' g' sb => ⟨ρ', F', g', aftS.mono sb q⟩
        | ct ρ' => rw [e] at q; exact fun σ' F' H' g' sb => ⟨ρ', F', g', aftS.mono sb q⟩
        | bk ρ' => rw [e] at q; exact q
        | rt d => rw [e] at q; exact q
        | ex n ρ' => rw [e] at q; exact q
        | bad => rw [e] at q; exact q
end

/-! ### what is walked -/
/-- the walk J gives ds, while F is frozen -/
def Walks (K : PySem.W.Frag) (T : List (Addr × Str)) (F : Hp) (J : It) (ds : List D) : Prop :=
  ∀ (i : Nat) (F' H : Hp), Sub F F' → Fz F' H → (∀ d, ds[i]? = some d → J.go i H ∧ ∀ x H', J.yld i H x H' → ∃ F2, Nx T F' H F2 H' ∧ Rp K F2 x d) ∧ (ds.length ≤ i → J.stop i H)
def tI (K : PySem.W.Frag) (T : List (Addr × Str)) (W : WX) (f : Rho → Res (List D)) : TI := tG (fun K F J ds => Walks K T F J ds) K T W f
abbrev DI (X : Cx) (T : List (Addr × Str)) (W : WX) (tg iter : Expr) (f : Rho → Res (List D)) : Prop := PI X tg iter (tI X.K T W f)
theorem _root_.L2.PI.to {X : Cx} {tg e : Expr} {t u : TI} (h : PI X tg e t) (k : ∀ σ H R, u σ H R → t σ H R) : PI X tg e u := ⟨fun pins s σ H R I q => h.run pins s σ H R I (k σ H R q)⟩
theorem _root_.L2.PI.or {X : Cx} {tg e : Expr} {t u : TI} (h : PI X tg e t) (h2 : PI X tg e u) : PI X tg e (fun σ H R => t σ H R ∨ u σ H R) := ⟨fun pins s σ H R I q => q.elim (h.run pins s σ H R I) (h2.run pins s σ H R I)⟩
def loopD (g : Tg) (s : Rho → SR) : List D → Rho → SR
  | [], ρ => .nx ρ
  | d :: ds, ρ => match g ρ d with
    | none => .bad
    | some ρ1 => match s ρ1 with
      | .nx ρ' => loopD g s ds ρ'
      | .ct ρ' => loopD g s ds ρ'
      | .bk ρ' => .nx ρ'
      | r => r
def sfor (f : Rho → Res (List D)) (g : Tg) (s : Rho → SR) : Rho → SR := fun ρ => bindS (f ρ) ρ fun ds => loopD g s ds ρ
section
variable {X : Cx} {T : List (Addr × Str)} {W : WX} {F0 H0 : Hp}
theorem s_for {tg iter : Expr} {body : List Stmt} {pos : Pos} {f : Rho → Res (List D)} {g : Tg} {s : Rho → SR} (hp : PassesOwn (model X.prog X.w) X.A X.env X.xe) (hc : X.calm = true) (hi : DI X T W tg iter f) (hg : DG X T tg g) (hb : DSs X T W F0 H0 body s)
    (hs : ∀ x, foldedSetIterable iter X.env x = pure x := by intro _; rfl) : DS X T W F0 H0 (.For tg iter body [] pos) (sfor f g s) :=
  (ps_for hp hc hi hg hb hs).to fun Z σ H ⟨ρ, F, gg, h⟩ => by
    refine ⟨ρ, F, gg.at_, (aftS.bind (R := fun F J ds => Walks X.K T F J ds) gg h).imp fun d _ J F1 H1 _ _ q => ?_⟩
    obtain ⟨ds, F2, _, n, g2, wk, q⟩ := q
    refine ⟨fun i m σ H => m = ds.length - i ∧ i ≤ ds.length ∧ ∃ ρ F', Sg X.K T F0 H0 F' H σ ρ ∧ Sub F2 F' ∧ aftS X.K T W F0 H0 F' Z (loopD g s (ds.drop i) ρ), ⟨ds.length, by omega, by omega, ρ, F2, g2, Sub.refl F2, q⟩, ?_⟩
    rintro i m σ H ⟨rfl, hi, ρ, F3, g3, sb, q⟩
    obtain ⟨wg, ws⟩ := wk i F3 H sb g3.at_.z
    by_cases hlt : i < ds.length
    · have e : ds[i]? = some ds[i] := List.getElem?_eq_getElem hlt
      obtain ⟨go, yl⟩ := wg _ e
      refine .inr ⟨go, fun σ' H' => ∃ ρ' F', Sg X.K T F0 H0 F' H' σ' ρ' ∧ Sub F2 F' ∧ aftS X.K T W F0 H0 F' Z (loopD g s (ds.drop (i + 1)) ρ'), fun σ' H' w => ⟨ds.length - (i + 1), by omega, rfl, by omega, w⟩, fun x H' y => ?_⟩
      obtain ⟨F4, n4, rx⟩ := yl x H' y
      rw [List.drop_eq_getElem_cons hlt] at q
      have g4 := g3.step n4
      have q : aftS X.K T W F0 H0 F3 Z (match g ρ ds[i] with
        | none => .bad
        | some ρ1 => match s ρ1 with
          | .nx ρ' => loopD g s (ds.drop (i + 1)) ρ'
          | .ct ρ' => loopD g s (ds.drop (i + 1)) ρ'
          | .bk ρ' => .nx ρ'
          | r => r) := q
      cases eg : g ρ ds[i] with
      | none => rw [eg] at q; exact q.elim
      | some ρ1 =>
        rw [eg] at q
        have q : aftS X.K T W F0 H0 F3 Z (match s ρ1 with
          | .nx ρ' => loopD g s (ds.drop (i + 1)) ρ'
          | .ct ρ' => loopD g s (ds.drop (i + 1)) ρ'
          | .bk ρ' => .nx ρ'
          | r => r) := q
        refine ⟨ρ, F4, ds[i], ρ1, g4.at_, rx, eg, fun σ1 a1 o1 => ⟨ρ1, F4, ⟨a1, g4.nx, o1 H0 g4.ow⟩, ?_⟩⟩
        cases e2 : s ρ1 with
        | nx ρ' => rw [e2] at q; exact fun σ' F' H' g' sb' => ⟨ρ', F', g', (sb.trans n4.f).trans sb', aftS.mono (n4.f.trans sb') q⟩
        | ct ρ' => rw [e2] at q; exact fun σ' F' H' g' sb' => ⟨ρ', F', g', (sb.trans n4.f).trans sb', aftS.mono (n4.f.trans sb') q⟩
        | bk ρ' => rw [e2] at q; exact fun σ' F' H' g' sb' => q σ' F' H' g' (n4.f.trans sb')
        | rt d => rw [e2] at q; exact q
        | ex n ρ' => rw [e2] at q; exact fun σ' F' H' g' sb' => q σ' F' H' g' (n4.f.trans sb')
        | bad => rw [e2] at q; exact q
    · have e : i = ds.length := by omega
      subst e
      refine .inl ⟨ws (Nat.le_refl _), ?_⟩
      rw [List.drop_length] at q
      exact q σ F3 H g3 (Sub.refl F3)

/-! the walks -/
def itemsD : D → Res (List D)
  | .tup xs => .ok xs
  | .lst xs => .ok xs
  | .arr ns => .ok (ns.map .int)
  | .str x => .ok (x.cps.toList.map fun c => .str ⟨#[c]⟩)
  | _ => .bad
def its (f : Rho → Res D) : Rho → Res (List D) := fun ρ => (f ρ).bind itemsD
theorem walks_list {K : PySem.W.Frag} {F : Hp} {a : Addr} {xs : List V} {ds : List D} (h : SqL K F a xs) (r : RpAll K F xs ds) : Walks K T F (Itl K a) ds := fun i F' H sb z => by
  have hl : SqL K H a xs := (sb.trans z.sub).sl h
  refine ⟨fun d hd => ?_, fun hle => ⟨xs, hl, by rw [r.length]; exact hle⟩⟩
  obtain ⟨v, hv, rv⟩ := r.get hd
  refine ⟨⟨xs, v, hl, hv⟩, fun x H' y => ?_⟩
  obtain ⟨rfl, y⟩ := y
  have e := y xs hl
  rw [hv] at e
  cases e
  exact ⟨F', Nx.refl z, rv.mono sb⟩
theorem walks_tup {K : PySem.W.Frag} {F : Hp} {a : Addr} {xs : List V} {ds : List D} (h : SqT K F a xs) (r : RpAll K F xs ds) : Walks K T F (Itt K a) ds := fun i F' H sb z => by
  have hl : SqT K H a xs := (sb.trans z.sub).st h
  refine ⟨fun d hd => ?_, fun hle => ⟨xs, hl, by rw [r.length]; exact hle⟩⟩
  obtain ⟨v, hv, rv⟩ := r.get hd
  refine ⟨⟨xs, v, hl, hv⟩, fun x H' y => ?_⟩
  obtain ⟨rfl, y⟩ := y
  have e := y xs hl
  rw [hv] at e
  cases e
  exact ⟨F', Nx.refl z, rv.mono sb⟩
end
end DN
namespace DN
open PySem PySem.Spec PyProof.Rows L2
open LamX (Tabs ExtN)

/-! ### the walks of for and of comprehensions -/
section
variable {X : Cx} {T : List (Addr × Str)} {W : WX} {F0 H0 : Hp}
theorem walks_str {K : PySem.W.Frag} {F : Hp} {x : Str} : Walks K T F (Its x) (x.cps.toList.map fun c => D.str ⟨#[c]⟩) := fun i F' H sb z => by
  refine ⟨fun d hd => ?_, fun hle => ?_⟩
  · rw [List.getElem?_map] at hd
    cases e : x.cps.toList[i]? with
    | none => rw [e] at hd; cases hd
    | some c =>
      rw [e] at hd
      cases hd
      have hi : i < x.cps.size := by
        have := (List.getElem?_eq_some_iff.mp e).1
        simpa using this
      refine ⟨hi, fun v H' y => ?_⟩
      obtain ⟨rfl, c', hc', rfl⟩ := y
      have e2 : x.cps[i]? = some c := by simpa using e
      rw [e2] at hc'
      cases hc'
      exact ⟨F', Nx.refl z, .str _⟩
  · show x.cps.size ≤ i
    simpa using hle
theorem i_any {tg l : Expr} {f : Rho → Res D} (h : DE X T W l f) : DI X T W tg l (its f) :=
  ((pi_list h).or ((pi_tup h).or (pi_str h))).to fun σ H R ⟨ρ, F, a, h⟩ => by
    have h : aft (fun F J ds => Walks X.K T F J ds) X.K T W σ F H R ((f ρ).bind itemsD) := h
    cases e : f ρ with
    | bad => rw [e] at h; exact h.elim
    | ex n =>
      rw [e] at h
      exact .inl ⟨ρ, F, a, by rw [e]; exact h⟩
    | ok d =>
      rw [e] at h
      have h : aft (fun F J ds => Walks X.K T F J ds) X.K T W σ F H R (itemsD d) := h
      cases d with
      | lst ds =>
        refine .inl ⟨ρ, F, a, ?_⟩
        rw [e]
        intro v F' H' n r
        cases r with
        | lst h1 r1 => exact ⟨_, rfl, ⟨_, SqL.of (n.z.sub _ _ h1)⟩, h _ F' H' n (walks_list (SqL.of h1) r1)⟩
      | arr ns =>
        refine .inl ⟨ρ, F, a, ?_⟩
        rw [e]
        intro v F' H' n r
        cases r with
        | arr h1 => exact ⟨_, rfl, ⟨_, n.z.sub.sl h1⟩, h _ F' H' n (walks_list h1 (RpAll.ints ns))⟩
      | tup ds =>
        refine .inr (.inl ⟨ρ, F, a, ?_⟩)
        rw [e]
        intro v F' H' n r
        cases r with
        | tup h1 r1 => exact ⟨_, rfl, ⟨_, n.z.sub.st h1⟩, h _ F' H' n (walks_tup h1 r1)⟩
      | str x =>
        refine .inr (.inr ⟨ρ, F, a, ?_⟩)
        rw [e]
        intro v F' H' n r
        cases r
        exact ⟨x, rfl, h _ F' H' n walks_str⟩
      | _ => exact h.elim
def rngD (lo : Int) (n : Nat) : List D := (List.range n).map fun (i : Nat) => D.int (lo + (i : Int))
theorem walks_rng {K : PySem.W.Frag} {F : Hp} {lo : Int} {n : Nat} : Walks K T F (Itr lo n) (rngD lo n) := fun i F' H sb z => by
  refine ⟨fun d hd => ?_, fun hle => ?_⟩
  · unfold rngD at hd
    rw [List.getElem?_map] at hd
    cases e : (List.range n)[i]? with
    | none => rw [e] at hd; cases hd
    | some j =>
      rw [e] at hd
      cases hd
      obtain ⟨h1, h2⟩ := List.getElem?_eq_some_iff.mp e
      rw [List.getElem_range] at h2
      rw [List.length_range] at h1
      subst h2
      refine ⟨h1, fun v H' y => ?_⟩
      obtain ⟨rfl, rfl⟩ := y
      exact ⟨F', Nx.refl z, .int _⟩
  · unfold rngD at hle
    rw [List.length_map, List.length_range] at hle
    exact hle
def rng1 (f : Rho → Res (List D)) : Rho → Res (List D) := fun ρ => (f ρ).bind fun ds => match ds with
  | [.int j] => if -(2 ^ 62) ≤ j ∧ j < 2 ^ 62 then .ok (rngD 0 j.toNat) else .bad
  | _ => .bad
theorem i_rng1 {tg a : Expr} {p pos : Pos} {f : Rho → Res (List D)} (hg : Gl X "range") (hm : X.mg "range" = none) (ha : DA X T W [a] f) (hs : starEach [a] X.env = [(false, eval a X.env)] := by rfl) : DI X T W tg (.Call (.Name "range" p) [a] [] pos) (rng1 f) :=
  (pi_range1 hg hm ha hs).to fun σ H R ⟨ρ, F, a, h⟩ => by
    refine ⟨ρ, F, a, (aft.bind (R := RpAll X.K) h).imp fun d _ v F1 H1 _ _ q => ?_⟩
    obtain ⟨ds, F2, _, n, rv, q⟩ := q
    match ds, rv, q with
    | [.int j], .cons (.int _) .nil, q =>
      have q : aft (fun F J ds => Walks X.K T F J ds) X.K T W σ F2 H1 R (if -(2 ^ 62) ≤ j ∧ j < 2 ^ 62 then .ok (rngD 0 j.toNat) else .bad) := q
      split at q
      · rename_i hj
        exact ⟨j, rfl, hj.1, hj.2, q _ F2 H1 (Nx.refl n.z) walks_rng⟩
      · exact q.elim
end

/-! ### comprehensions -/
def wipeR (ρ : Rho) : List Nat → Rho
  | [] => ρ
  | v :: vs => (wipeR ρ vs).set v .u
def compD (g : Tg) (t : Rho → Res Bool) (e : Rho → Res D) (ρ : Rho) : List D → Res (List D)
  | [] => .ok []
  | d :: ds => match g ρ d with
    | none => .bad
    | some ρ1 => match t ρ1 with
      | .ok b => if b = true then (match e ρ1 with
        | .ok y => (compD g t e ρ ds).bind fun ys => .ok (y :: ys)
        | _ => .bad) else compD g t e ρ ds
      | _ => .bad
def lcD (f : Rho → Res (List D)) (i : Nat) (t : Rho → Res Bool) (e : Rho → Res D) : Rho → Res D := fun ρ => (f ρ).bind fun ds => if ds.length < sizeLine then (compD (gn i) t e (ρ.set i .u) ds).bind fun ys => .ok (.lst ys) else .bad
def yes : Rho → Res Bool := fun _ => .ok true
theorem tabs_upd {T : List (Addr × Str)} {H : Hp} {p : Addr} {xs : List V} {o : HO} (h : Tabs T H) (e : H p = some (.lst xs)) : Tabs T (upd H p o) := fun q hq => by
  obtain ⟨ps, h1, h2, h3⟩ := h q hq
  refine ⟨ps, ?_, h2, fun pos cv hc => ?_⟩
  · rw [upd_ne fun z => by rw [z, e] at h1; cases h1]; exact h1
  · obtain ⟨c, e1, e2⟩ := h3 pos cv hc
    refine ⟨c, e1, ?_⟩
    rw [upd_ne fun z => by rw [z, e] at e2; unfold LamX.CodeO at e2; cases e2]; exact e2
section
variable {X : Cx} {T : List (Addr × Str)} {W : WX} {F0 H0 : Hp}
abbrev W0 : WX := fun _ _ _ _ => False
theorem no_ex {α β : Type} {R : Hp → α → β → Prop} {K : PySem.W.Frag} {σ : L2.St} {F H : Hp} {Q : α → Hp → Prop} {r : Res β} (z : Fz F H) {b : β} (e : r = .ok b) (h : ∀ a F' H', Nx T F H F' H' → R F' a b → Q a H') : aft R K T W0 σ F H Q r := by
  rw [e]; exact h
theorem lc_to {K : PySem.W.Frag} {f : Rho → Res (List D)} {i : Nat} {t : Rho → Res Bool} {e : Rho → Res D} {σ : L2.St} {H : Hp} {Q : VK} (h : tE K T W (lcD f i t e) σ H Q) :
    tLc (tI K T W f) (gName i) (tT K T W0 t) (tE K T W0 e) [i] σ H Q := by
  obtain ⟨ρ, F, a, h⟩ := h
  refine ⟨ρ, F, a, (aft.bind (R := fun F J ds => Walks K T F J ds) h).imp fun d _ J F1 H1 _ _ q => ?_⟩
  obtain ⟨ds, F2, _, n, wk, q⟩ := q
  have q : aft (Rp K) K T W σ F2 H1 Q (if ds.length < sizeLine then (compD (gn i) t e (ρ.set i .u) ds).bind fun ys => .ok (.lst ys) else .bad) := q
  split at q
  · rename_i hlen
    cases hc : compD (gn i) t e (ρ.set i .u) ds with
    | bad => rw [hc] at q; exact q.elim
    | ex m =>
      exfalso
      have : ∀ ds : List D, compD (gn i) t e (ρ.set i .u) ds ≠ .ex m := fun ds => by
        induction ds with
        | nil => intro z; cases z
        | cons d ds ih =>
          intro z
          unfold compD at z
          simp only [gn] at z
          split at z
          · split at z
            · split at z
              · cases e2 : compD (gn i) t e (ρ.set i .u) ds with
                | ok ys => rw [e2] at z; cases z
                | ex m' =>
                  rw [e2] at z
                  cases z
                  exact ih e2
                | bad => rw [e2] at z; cases z
              · cases z
            · exact ih z
          · cases z
      exact this ds hc
    | ok ys =>
      rw [hc] at q
      have a2 := a.nx n
      intro p hp
      -- behind k turns
      refine ⟨fun k m H => m = ds.length - k ∧ k ≤ ds.length ∧ ∃ F' acc dacc rest, Nx T F2 H1 F' H ∧ F' p = none ∧ H p = some (.lst acc) ∧ RpAll K F' acc dacc ∧ acc.length ≤ k ∧ compD (gn i) t e (ρ.set i .u) (ds.drop k) = .ok rest ∧ dacc ++ rest = ys,
        ⟨ds.length, by omega, by omega, F2, [], [], ys, Nx.lay n.z hp, ?_, upd_same, .nil, by simp, hc, rfl⟩, ?_⟩
      · cases z : F2 p with
        | none => rfl
        | some o =>
          have := n.z.sub _ _ z
          rw [hp] at this; cases this
      rintro k m H ⟨rfl, hk, F', acc, dacc, rest, nx, hFp, hHp, ra, la, hr, hy⟩
      obtain ⟨wg, ws⟩ := wk k F' H nx.f nx.z
      by_cases hlt : k < ds.length
      · obtain ⟨go, yl⟩ := wg _ (List.getElem?_eq_getElem hlt)
        rw [List.drop_eq_getElem_cons hlt] at hr
        unfold compD at hr
        simp only [gn] at hr
        refine .inr ⟨go, fun H => ∃ F' acc dacc rest, Nx T F2 H1 F' H ∧ F' p = none ∧ H p = some (.lst acc) ∧ RpAll K F' acc dacc ∧ acc.length ≤ k + 1 ∧ compD (gn i) t e (ρ.set i .u) (ds.drop (k + 1)) = .ok rest ∧ dacc ++ rest = ys, fun H' w => ⟨ds.length - (k + 1), by omega, rfl, by omega, w⟩, fun x H' y => ?_⟩
        obtain ⟨F3, n3, rx⟩ := yl x H' y
        have hp3 : H' p = some (.lst acc) := n3.keep hHp ntL
        have hf3 : F3 p = none := n3.out hHp ntL hFp
        have a3 : At K T F3 H' (σ.set i none) (ρ.set i .u) := ⟨n3.z, (nx.trans n3).tab a2.t, (a2.r.mono (nx.trans n3)).wipe1⟩
        have a4 : At K T F3 H' ((σ.set i none).set i (some x)) ((ρ.set i .u).set i (.z ds[k])) := ⟨a3.z, a3.t, a3.r.set rx⟩
        show wipe ((σ.set i none).set i (some x)) [i] = wipe σ [i] ∧ _
        refine ⟨?_, ?_⟩
        · show ((σ.set i none).set i (some x)).set i none = σ.set i none
          rw [List.set_set, List.set_set]
        · cases ht : t ((ρ.set i .u).set i (.z ds[k])) with
          | bad => rw [ht] at hr; cases hr
          | ex m => rw [ht] at hr; cases hr
          | ok b =>
            rw [ht] at hr
            refine ⟨_, F3, a4, no_ex a4.z ht fun b' F4 H4 n4 rb => ?_⟩
            obtain rfl : b' = b := rb
            cases b' with
            | false =>
              show ∃ F' acc dacc rest, _
              have hr : compD (gn i) t e (ρ.set i .u) (ds.drop (k + 1)) = .ok rest := hr
              exact ⟨F4, acc, dacc, rest, (nx.trans n3).trans n4, n4.out hp3 ntL hf3, n4.keep hp3 ntL, ra.mono (n3.trans n4).f, by omega, hr, hy⟩
            | true =>
              have hr : (match e ((ρ.set i .u).set i (.z ds[k])) with
                | .ok y => (compD (gn i) t e (ρ.set i .u) (ds.drop (k + 1))).bind fun ys => .ok (y :: ys)
                | _ => .bad) = .ok rest := hr
              cases he : e ((ρ.set i .u).set i (.z ds[k])) with
              | bad => rw [he] at hr; cases hr
              | ex m => rw [he] at hr; cases hr
              | ok y =>
                rw [he] at hr
                have hr : (compD (gn i) t e (ρ.set i .u) (ds.drop (k + 1))).bind (fun ys => .ok (y :: ys)) = .ok rest := hr
                cases hr2 : compD (gn i) t e (ρ.set i .u) (ds.drop (k + 1)) with
                | bad => rw [hr2] at hr; cases hr
                | ex m => rw [hr2] at hr; cases hr
                | ok rest' =>
                  rw [hr2] at hr
                  cases hr
                  show tE K T W0 e _ H4 _
                  refine ⟨_, F4, a4.nx n4, no_ex n4.z he fun v F5 H5 n5 rv => ?_⟩
                  have hp5 : H5 p = some (.lst acc) := (n4.trans n5).keep hp3 ntL
                  have hf5 : F5 p = none := (n4.trans n5).out hp3 ntL hf3
                  have n6 := (nx.trans n3).trans (n4.trans n5)
                  refine ⟨acc, hp5, by omega, F5, acc ++ [v], dacc ++ [y], rest', ⟨n6.f, ⟨fun b o eb => ?_, n6.z.nt⟩, fun b o eb no => ?_, n6.new, fun tb => tabs_upd (n6.tab tb) hp5⟩, hf5, upd_same, ?_, by rw [List.length_append]; simp; omega, rfl, by rw [List.append_assoc]; exact hy⟩
                  · rw [upd_ne fun z => by rw [z, hf5] at eb; cases eb]
                    exact n6.z.sub _ _ eb
                  · rw [upd_ne fun z => by rw [z, hp] at eb; cases eb]
                    exact n6.h _ _ eb no
                  · exact (ra.mono ((n3.trans n4).trans n5).f).append (.cons rv .nil)
      · have ek : k = ds.length := by omega
        subst ek
        refine .inl ⟨ws (Nat.le_refl _), ?_⟩
        rw [List.drop_length] at hr
        cases hr
        rw [List.append_nil] at hy
        subst hy
        refine q (.ref p) (upd F' p (.lst acc)) H ⟨fun b o eb => ?_, ⟨fun b o eb => ?_, fun b ps eb => ?_⟩, nx.h, fun b o eb => ?_, nx.tab⟩ (.lst upd_same (ra.mono fun b o eb => ?_))
        · rw [upd_ne fun z => by rw [z] at eb; rw [nx.f _ _ eb] at hFp; cases hFp]
          exact nx.f _ _ eb
        · by_cases hb : b = p
          · subst hb; rw [upd_same] at eb; rw [← eb]; exact hHp
          · rw [upd_ne hb] at eb; exact nx.z.sub _ _ eb
        · by_cases hb : b = p
          · subst hb; rw [upd_same] at eb; cases eb
          · rw [upd_ne hb] at eb; exact nx.z.nt _ _ eb
        · by_cases hb : b = p
          · subst hb
            exact .inr fun o' e' => by rw [hp] at e'; cases e'
          · rw [upd_ne hb] at eb; exact nx.new _ _ eb
        · rw [upd_ne fun z => by rw [z, hFp] at eb; cases eb]; exact eb
  · exact q.elim
theorem ts_nil : PTs X [] (tT X.K T W yes) := ⟨fun pins s σ H Q I ⟨ρ, F, a, h⟩ => pts_nil.run pins s σ H Q I (h true F H (Nx.refl a.z) rfl)⟩
theorem e_lc {elt tg iter : Expr} {ifs : List Expr} {scope : Scope} {x : Str} {i : Nat} {pos : Pos} {f : Rho → Res (List D)} {t : Rho → Res Bool} {e : Rho → Res D} (hc : X.calm = true) (hN : X.N.Nodup) (hi : DI X T W tg iter f) (ok : BlkOk X.N X.env.scope scope [(x, i)])
    (hg : ∀ (s : Shared) (H : Hp) (C : Addr) (cl : List (Str × Addr)) (fp : List Addr), PG (X.blk s H scope (compEnvC scope cl C X.env) fp) tg (gName i))
    (ht : ∀ (s : Shared) (H : Hp) (C : Addr) (cl : List (Str × Addr)) (fp : List Addr), PTs (X.blk s H scope (compEnvC scope cl C X.env) fp) ifs (tT X.K T W0 t))
    (he : ∀ (s : Shared) (H : Hp) (C : Addr) (cl : List (Str × Addr)) (fp : List Addr), DE (X.blk s H scope (compEnvC scope cl C X.env) fp) T W0 elt e) (hs : ∀ x, foldedSetIterable iter X.env x = pure x := by intro _; rfl) :
    DE X T W (.ListComp elt [⟨tg, iter, ifs, 0⟩] scope pos) (lcD f i t e) :=
  (pe_lc (own := [(x, i)]) hc hN hi ok hg ht he hs).to fun _ _ _ h => lc_to h
end

/-! ### defs -/
def startR (n : Nat) (ds : List D) : Rho := ds.map En.z ++ List.replicate (n - ds.length) .u
def runB (n : Nat) (s : Rho → SR) (ds : List D) : Res D := match s (startR n ds) with
  | .nx _ => .ok .non
  | .rt d => .ok d
  | .ex m _ => .ex m
  | _ => .bad
abbrev WofE (E : XK) : WX := fun cls d _ H => E cls d H
def spD (K : PySem.W.Frag) (T : List (Addr × Str)) (n : Nat) (den : List D → Res D) : Sp := fun vs H Q E => ∃ F ds, Fz F H ∧ Tabs T H ∧ RpAll K F vs ds ∧ ds.length = n ∧ aft (Rp K) K T (WofE E) [] F H Q (den ds)
def callD (n : Nat) (den : List D → Res D) (f : Rho → Res (List D)) : Rho → Res D := fun ρ => (f ρ).bind fun ds => if ds.length = n then den ds else .bad
theorem Rl.start {K : PySem.W.Frag} {F H : Hp} {vs : List V} {ds : List D} {N : List Str} (r : RpAll K F vs ds) : Rl K F H (L2.start N vs) (startR N.length ds) := by
  have hl := r.length
  have key : ∀ (i : Nat) (en : En), (startR N.length ds)[i]? = some en → (∃ d, ds[i]? = some d ∧ en = .z d) ∨ en = .u := fun i en h => by
    unfold startR at h
    rw [List.getElem?_append] at h
    split at h
    · rw [List.getElem?_map] at h
      cases e : ds[i]? with
      | none => rw [e] at h; cases h
      | some d => rw [e] at h; cases h; exact .inl ⟨d, rfl, rfl⟩
    · rw [List.getElem?_replicate] at h
      split at h
      · cases h; exact .inr rfl
      · cases h
  refine ⟨?_, fun i d h => ?_, fun i d h => ?_, fun i j d e p q _ h => ?_⟩
  · unfold L2.start startR
    simp [hl]
  · rcases key i _ h with ⟨d', e, z⟩ | z
    · cases z
      obtain ⟨v, hv, rv⟩ := r.get e
      refine ⟨v, ?_, rv⟩
      unfold L2.start
      rw [List.getElem?_append_left (by rw [List.length_map]; exact (List.getElem?_eq_some_iff.mp hv).1), List.getElem?_map, hv]
      rfl
    · cases z
  · rcases key i _ h with ⟨d', e, z⟩ | z <;> cases z
  · rcases key i _ h with ⟨d', e, z⟩ | z <;> cases z
structure OkD (P : Program) (w : World) (K : PySem.W.Frag) (mg : Str → Option Value) (base : Heap) (T : List (Addr × Str)) (k : Nat) (x : Str) (n : Nat) (den : List D → Res D) : Prop where
  ex : ∃ fd ps, FnOk P w K mg base (L2.CX P w) k (He.ga K x) fd ps (spD K T n den) ∧ Binds K fd ps []
  kp : PySem.W.keepIn K (.ref (He.ga K x)) = true
  mg : mg x = some (.ref (He.ga K x))
theorem fn_ok {P : Program} {w : World} {K : PySem.W.Frag} {mg : Str → Option Value} {base : Heap} {T : List (Addr × Str)} {k : Nat} {x qual : Str} {params : Arguments} {body : List Stmt} {scope : Scope} {kws : List (Str × V)} {f : Addr} {fd : FuncData} {N ps : List Str} {n : Nat} {s : Rho → SR}
    (Fd : FunD K x qual params body scope [] kws f fd) (S : FnScope N ps scope) (hn : ps.length = n)
    (hb : ∀ (cdv : Value) (A : Around) (outer : List Env) (s0 : Shared) (H0 : Hp) (E : XK) (F0 : Hp), Room k (A.deeper (envOfC qual scope s0.heap.objs.size f cdv)) → DSs (cxOf (L2.CX P w) P w K mg base N qual scope f cdv A outer s0 H0 E) T (WofE E) F0 H0 body s) :
    FnOk P w K mg base (L2.CX P w) (k + 1) f fd ps (spD K T n (runB N.length s)) := by
  refine Fd.ok S (fun vs H Q E h => ?_) fun cdv A outer s0 H vs Q E hr h => ?_
  · obtain ⟨F, ds, _, _, r, hl, _⟩ := h
    rw [r.length, hl, hn]
  · obtain ⟨F, ds, z, tb, r, hl, h⟩ := h
    refine ⟨_, hb cdv A outer s0 H E F hr, startR N.length ds, F, ⟨⟨z, tb, Rl.start r⟩, Nx.refl z, fun i d p h1 => ?_⟩, ?_⟩
    · exfalso
      have o := (Rl.start (K := K) (F := F) (H := H) (N := N) r)
      unfold startR at h1
      rw [List.getElem?_append] at h1
      split at h1
      · rw [List.getElem?_map] at h1
        cases e : ds[i]? with
        | none => rw [e] at h1; cases h1
        | some d => rw [e] at h1; cases h1
      · rw [List.getElem?_replicate] at h1
        split at h1 <;> cases h1
    · unfold runB at h
      cases e : s (startR N.length ds) with
      | nx ρ => rw [e] at h; exact fun σ F' H' g _ => h .non F' H' g.nx .non
      | rt d => rw [e] at h; exact fun v F' H' nx rv => h v F' H' nx rv
      | ex m ρ => rw [e] at h; exact fun σ F' H' g _ => h F' H' g.nx
      | bk ρ => rw [e] at h; exact h.elim
      | ct ρ => rw [e] at h; exact h.elim
      | bad => rw [e] at h; exact h.elim
section
variable {X : Cx} {T : List (Addr × Str)} {W : WX} {F0 H0 : Hp}
theorem call_to {K : PySem.W.Frag} {n : Nat} {den : List D → Res D} {f : Rho → Res (List D)} {σ : L2.St} {H : Hp} {Q : VK} (h : tE K T W (callD n den f) σ H Q) : tCallS (spD K T n den) (WE W) (tA K T W f) σ H Q := by
  obtain ⟨ρ, F, a, h⟩ := h
  refine ⟨ρ, F, a, (aft.bind (R := RpAll K) h).imp fun d _ v F1 H1 _ _ q => ?_⟩
  obtain ⟨b, F2, _, nx, rv, q⟩ := q
  have q : aft (Rp K) K T W σ F2 H1 Q (if b.length = n then den b else .bad) := q
  split at q
  · rename_i hl
    refine ⟨F2, b, nx.z, nx.tab a.t, rv, hl, ?_⟩
    cases e : den b with
    | ok d => rw [e] at q; exact q
    | ex m => rw [e] at q; exact q
    | bad => rw [e] at q; exact q.elim
  · exact q.elim
theorem e_call {j k n : Nat} {x : Str} {den : List D → Res D} {e : Expr} {es : List Expr} {p pos : Pos} {f : Rho → Res (List D)} (O : OkD X.prog X.w X.K X.mg X.base T j x n den) (hr : Room k X.A) (tk : Takes X W) (hg : Gl X x) (ha : DA X T W (e :: es) f) (hj : j ≤ k := by decide)
    (hdb : (x == ("__debug__" : Str)) = false := by decide) (he : starEach (e :: es) X.env = (false, eval e X.env) :: starEach es X.env := by rfl) (hpl : (backTo pos (starEach es X.env)).any (·.1) = false := by rfl) :
    DE X T W (.Call (.Name x p) (e :: es) [] pos) (callD n den f) := by
  obtain ⟨fd, ps, G, b⟩ := O.ex
  exact (pe_callS (E := WE W) G (hr.mono hj) hg O.mg O.kp b (fun σ => passAt tk σ) ha hdb he hpl).to fun _ _ _ h => call_to h
/-- what is known of an own error class -/
structure ExcN (K : PySem.W.Frag) (mg : Str → Option Value) (x : Str) : Prop where
  e : PySem.W.excIn K (He.ga K x) He.veBase "ValueError.__new__" = true
  k : PySem.W.keepIn K (.ref (He.ga K x)) = true
  b : PySem.W.subIn K (.ref (He.ga K x)) (.type "BaseException") = some true
  t : PySem.W.typeIn K (.ref (He.ga K x)) = some (.type "type")
  g : mg x = some (.ref (He.ga K x))
def sraise (x : Str) : Rho → SR := fun ρ => .ex x ρ
theorem s_raise {x m : Str} {j : Nat} {p p2 pos pos2 : Pos} (N : ExcN X.K X.mg x) (hc : X.calm = true) (tk : Takes X W) (hg : Gl X x) (hdb : (x == ("__debug__" : Str)) = false := by decide) : DS X T W F0 H0 (.Raise (some (.Call (.Name x p) [.Constant (.str m) j p2] [] pos)) none pos2) (sraise x) :=
  (ps_raise hc tk (pmk_own PySem.F.excBase_ValueError N.e N.g N.k (raises_own N.b N.t) hg hdb)).to fun Z σ H ⟨ρ, F, g, h⟩ => h σ F H g (Sub.refl F)
end
end DN
namespace DN
open PySem PySem.Spec PyProof.Rows L2
open LamX (Tabs ExtN)

/-! ### the module's names -/
section
variable {X : Cx} {T : List (Addr × Str)} {W : WX}
theorem e_gint {x : Str} {i : Int} {pos : Pos} (h : ∃ t, X.mg x = some (.int i t)) (hg : Gl X x) (hd : (x == ("__debug__" : Str)) = false := by decide) : DE X T W (.Name x pos) (con (.int i)) := by
  obtain ⟨t, h⟩ := h
  exact e_c (pe_glob (v := .int i) hg h ⟨t, rfl⟩ hd) fun _ => .int i
theorem e_gstr {x z : Str} {pos : Pos} (h : ∃ t, X.mg x = some (.str z t)) (hg : Gl X x) (hd : (x == ("__debug__" : Str)) = false := by decide) : DE X T W (.Name x pos) (con (.str z)) := by
  obtain ⟨t, h⟩ := h
  exact e_c (pe_glob (v := .str z) hg h ⟨t, rfl⟩ hd) fun _ => .str z
theorem RpAll.strs {K : PySem.W.Frag} {F : Hp} : ∀ (ns : List Str), RpAll K F (ns.map V.str) (ns.map D.str)
  | [] => .nil
  | n :: ns => .cons (.str n) (RpAll.strs ns)
theorem e_gtup {x : Str} {zs : List Str} {pos : Pos} (h : X.mg x = some (.ref (He.ga X.K x))) (ht : ∀ H, SqT X.K H (He.ga X.K x) (zs.map V.str)) (hg : Gl X x) (hd : (x == ("__debug__" : Str)) = false := by decide) : DE X T W (.Name x pos) (con (.tup (zs.map D.str))) :=
  e_c (pe_glob (v := .ref (He.ga X.K x)) hg h rfl hd) fun F => .tup (ht F) (RpAll.strs zs)
theorem e_gfn {x : Str} {pos : Pos} (h : X.mg x = some (.ref (He.ga X.K x))) (hg : Gl X x) (hd : (x == ("__debug__" : Str)) = false := by decide) : DE X T W (.Name x pos) (con (.fn x)) :=
  e_c (pe_glob (v := .ref (He.ga X.K x)) hg h rfl hd) fun F => .fn x
theorem e_ty {x : Str} {n : String} {pos : Pos} (hm : X.mg x = none) (hv : bootBuiltins x = some (.type n)) (hg : Gl X x) (hn : x ≠ "__name__" := by decide) (hd : (x == ("__debug__" : Str)) = false := by decide) : DE X T W (.Name x pos) (con (.ty n)) :=
  e_c (pe_bltn (v := .ty n) hg hm hv rfl hn hd) fun F => .ty n
end
theorem bt_len : bootBuiltins "len" = some (.builtin "len") := by decide +kernel
theorem bt_isinstance : bootBuiltins "isinstance" = some (.builtin "isinstance") := by decide +kernel
theorem bt_int : bootBuiltins "int" = some (.type "int") := by decide +kernel
theorem bt_str : bootBuiltins "str" = some (.type "str") := by decide +kernel
theorem bt_tuple : bootBuiltins "tuple" = some (.type "tuple") := by decide +kernel
/-! ### the end -/
theorem start_arr {K : PySem.W.Frag} {H : Hp} {a : Addr} {ns : List Int} (h : SqL K H a (ns.map V.int)) : ∃ F, Fz F H ∧ Rp K F (.ref a) (.arr ns) := by
  rcases h with (h | ⟨o, h⟩) | h
  · refine ⟨fun b => if b = a then some (.lst (ns.map V.int)) else none, ⟨fun b o e => ?_, fun b ps e => ?_⟩, .arr (.inl (.inl (if_pos rfl)))⟩
    · by_cases hb : b = a
      · rw [if_pos hb] at e; rw [hb, h]; exact e
      · rw [if_neg hb] at e; cases e
    · by_cases hb : b = a
      · rw [if_pos hb] at e; cases e
      · rw [if_neg hb] at e; cases e
  · refine ⟨fun b => if b = a then some (.frz o (.lst (ns.map V.int))) else none, ⟨fun b o e => ?_, fun b ps e => ?_⟩, .arr (.inl (.inr ⟨o, if_pos rfl⟩))⟩
    · by_cases hb : b = a
      · rw [if_pos hb] at e; rw [hb, h]; exact e
      · rw [if_neg hb] at e; cases e
    · by_cases hb : b = a
      · rw [if_pos hb] at e; cases e
      · rw [if_neg hb] at e; cases e
  · exact ⟨fun _ => none, ⟨(fun b o e => nomatch e), (fun b ps e => nomatch e)⟩, .arr (.inr h)⟩
theorem law_sp {K : PySem.W.Frag} {T : List (Addr × Str)} {H : Hp} {a : Addr} {ns : List Int} {den : List D → Res D} (hT : Tabs T H) (h : SqL K H a (ns.map V.int)) (hd : den [.arr ns] = .ok (.bl true)) : spD K T 1 den [.ref a] H (fun v _ => v = .bl true) fun _ _ _ => False := by
  obtain ⟨F, z, r⟩ := start_arr h
  refine ⟨F, [.arr ns], z, hT, .cons r .nil, rfl, ?_⟩
  rw [hd]
  intro v F' H' n rv
  cases rv
  rfl
theorem cx_false {P : Program} {w : World} {l : List Env} {H : Hp} {s : Shared} {e : Value} {s' : Shared} (h : L2.CX P w l H s (fun _ _ _ => False) e s') : False := by
  obtain ⟨_, _, _, _, _, _, _, _, _, _, _, _, z⟩ := h
  exact z.elim
theorem lawAt0 {l : PySem.W.OpenLaw} {w : World} {K : PySem.W.Frag} {k n : Nat} {x : Str} {mg : Str → Option Value} {fa : Addr} {h : Heap} {fd : FuncData} {den : List D → Res D} (hb : ∀ (s : Shared) (u : Value), BindsTo s fd ⟨[u], []⟩ [(x, u)])
    (hd : ∀ ns : List Int, ns.length ≤ n → (∀ z ∈ ns, Builtin.Int.intBits z ≤ 1048576) → den [.arr ns] = .ok (.bl true))
    (hF : ∀ base : Heap, K.In base → base.Ns mainGlobals mg → FnOk l.prog w K mg base (L2.CX l.prog w) k fa fd [x] (spD K [] 1 den)) : LamX.LawAtS l w K (L2.CX l.prog w) k n x mg fa h :=
  ⟨fd, [], spD K [] 1 den, fun p hp => by (cases hp), fun p hp => by (cases hp), fun p hp => by (cases hp), hb, fun H a ns hl hz _ hS => law_sp (fun p hp => by cases hp) hS (hd ns hl hz), fun base h1 h2 _ => hF base h1 h2⟩
end DN
namespace HT
open PySem PyProof.Rows
section
variable {prog : Program} {w : World} {A : Around} {E : Value → Shared → Prop} {s : Shared}
end
end HT
namespace DN
open PySem PySem.Spec PyProof.Rows L2
open LamX (Tabs ExtN)
section
variable {X : Cx}
end
theorem _root_.L2.PE.or {X : Cx} {e : Expr} {t u : TE} (h : PE X e t) (h2 : PE X e u) : PE X e (fun σ H Q => t σ H Q ∨ u σ H Q) := ⟨fun pins s σ H Q I q => q.elim (h.run pins s σ H Q I) (h2.run pins s σ H Q I)⟩
section
variable {X : Cx} {T : List (Addr × Str)} {W : WX}
end
end DN
namespace DN
open PySem PySem.Spec PyProof.Rows L2

/-! ### evaluating functions of data -/
def app2 (G : D → D → Option D) : Res D → Res D → Res D
  | .ok a, .ok b => ofO (G a b)
  | .ok _, .ex n => .ex n
  | .ok _, .bad => .bad
  | .ex n, _ => .ex n
  | .bad, _ => .bad
def app1 (G : D → Option D) (r : Res D) : Res D := r.bind fun a => ofO (G a)
def appL (G : List D → Option D) (r : Res (List D)) : Res D := r.bind fun a => ofO (G a)
def consR : Res D → Res (List D) → Res (List D)
  | .ok a, .ok b => .ok (a :: b)
  | .ok _, .ex n => .ex n
  | .ok _, .bad => .bad
  | .ex n, _ => .ex n
  | .bad, _ => .bad
def callR (n : Nat) (den : List D → Res D) (r : Res (List D)) : Res D := r.bind fun ds => if ds.length = n then den ds else .bad
def tstR (r : Res D) : Res Bool := r.bind ans
def seqR (r : SR) (t : Rho → SR) : SR := match r with
  | .nx ρ => t ρ
  | r => r
def retR (r : Res D) (ρ : Rho) : SR := bindS r ρ .rt
def asgR (r : Res D) (ρ : Rho) (g : Tg) : SR := bindS r ρ fun d => match g ρ d with
  | some ρ' => .nx ρ'
  | none => .bad
def ifR (r : Res Bool) (s t : Rho → SR) (ρ : Rho) : SR := bindS r ρ fun b => if b = true then s ρ else t ρ
def finR : SR → Res D
  | .nx _ => .ok .non
  | .rt d => .ok d
  | .ex m _ => .ex m
  | _ => .bad
def andR (r : Res Bool) (g : Rho → Res Bool) (ρ : Rho) : Res Bool := r.bind fun b => if b = true then g ρ else .ok false
def orR (r : Res Bool) (g : Rho → Res Bool) (ρ : Rho) : Res Bool := r.bind fun b => if b = true then .ok true else g ρ
def notR (r : Res Bool) : Res Bool := r.bind fun b => .ok (!b)
def andER (r : Res D) (g : Rho → Res D) (ρ : Rho) : Res D := r.bind fun d => (ans d).bind fun b => if b = true then g ρ else .ok (.bl false)
def orER (r : Res D) (g : Rho → Res D) (ρ : Rho) : Res D := r.bind fun d => (ans d).bind fun b => if b = true then .ok (.bl true) else g ρ
def notER (r : Res D) : Res D := r.bind fun d => (ans d).bind fun b => .ok (.bl (!b))
def mkTR (r : Res (List D)) : Res D := r.bind fun ds => if ds.length ≤ sizeLine then .ok (.tup ds) else .bad
def mkLR (r : Res (List D)) : Res D := r.bind fun ds => if ds.length ≤ sizeLine then .ok (.lst ds) else .bad
def slcR (r : Res D) (lo hi : Res (Option Int)) : Res D := r.bind fun d => lo.bind fun lo => hi.bind fun hi => ofO (slD d lo hi)
def psmR (r : Res D) : Res (Option Int) := r.bind intO
def forR (r : Res (List D)) (g : Tg) (s : Rho → SR) (ρ : Rho) : SR := bindS r ρ fun ds => loopD g s ds ρ
def chnR (G G' : D → D → Option D) (a b c : Res D) : Res D := a.bind fun d => b.bind fun e => (ofO (G d e)).bind fun z => (ans z).bind fun k => if k = true then c.bind fun c => ofO (G' e c) else .ok (.bl false)
theorem runB_eq {n : Nat} {g : Rho → SR} {ds : List D} {ρ : Rho} (h : startR n ds = ρ) : runB n g ds = finR (g ρ) := by
  subst h
  unfold runB finR
  cases g (startR n ds) <;> rfl
section
variable {ρ : Rho}
theorem bin_def {G f g} : bop G f g ρ = app2 G (f ρ) (g ρ) := by
  unfold bop app2
  cases f ρ <;> cases g ρ <;> rfl
theorem una_def {G f} : una G f ρ = app1 G (f ρ) := rfl
theorem cal_def {G f} : cal G f ρ = appL G (f ρ) := rfl
theorem acons_def {f g} : acons f g ρ = consR (f ρ) (g ρ) := by
  unfold acons consR
  cases f ρ <;> cases g ρ <;> rfl
theorem anil_def : anil ρ = .ok [] := rfl
theorem con_def {d} : con d ρ = .ok d := rfl
theorem callD_def {n den f} : callD n den f ρ = callR n den (f ρ) := rfl
theorem tst_def {f} : tst f ρ = tstR (f ρ) := rfl
theorem sseq_def {s t} : sseq s t ρ = seqR (s ρ) t := by
  unfold sseq seqR
  cases s ρ <;> rfl
theorem sret_def {f} : sret f ρ = retR (f ρ) ρ := rfl
theorem sasg_def {f g} : sasg f g ρ = asgR (f ρ) ρ g := rfl
theorem sif_def {c s t} : sif c s t ρ = ifR (c ρ) s t ρ := rfl
theorem sskip_def : sskip ρ = .nx ρ := rfl
theorem sraise_def {x} : sraise x ρ = .ex x ρ := rfl
theorem andQ_def {f g} : andQ f g ρ = andR (f ρ) g ρ := rfl
theorem orQ_def {f g} : orQ f g ρ = orR (f ρ) g ρ := rfl
theorem notQ_def {f} : notQ f ρ = notR (f ρ) := rfl
theorem andE_def {f g} : andE f g ρ = andER (f ρ) g ρ := rfl
theorem orE_def {f g} : orE f g ρ = orER (f ρ) g ρ := rfl
theorem notE_def {f} : notE f ρ = notER (f ρ) := rfl
theorem mkT_def {f} : mkT f ρ = mkTR (f ρ) := rfl
theorem mkL_def {f} : mkL f ρ = mkLR (f ρ) := rfl
theorem slc_def {f g h} : slc f g h ρ = slcR (f ρ) (g ρ) (h ρ) := rfl
theorem psm_def {f} : psm f ρ = psmR (f ρ) := rfl
theorem pno_def : pno ρ = .ok none := rfl
theorem sfor_def {f g s} : sfor f g s ρ = forR (f ρ) g s ρ := rfl
theorem chn_def {G G' f g h} : chn G G' f g h ρ = chnR G G' (f ρ) (g ρ) (h ρ) := rfl
theorem var_zero {d r} : var 0 (.z d :: r) = .ok d := rfl
theorem var_succ {n x r} : var (n + 1) (x :: r) = var n r := rfl
theorem app2_ok {G a b} : app2 G (.ok a) (.ok b) = ofO (G a b) := rfl
theorem app1_ok {G a} : app1 G (.ok a) = ofO (G a) := rfl
theorem appL_ok {G a} : appL G (.ok a) = ofO (G a) := rfl
theorem consR_ok {a b} : consR (.ok a) (.ok b) = .ok (a :: b) := rfl
theorem ofO_some {α} {a : α} : ofO (some a) = .ok a := rfl
theorem call0 {den} : callR 0 den (.ok []) = den [] := rfl
theorem call1 {den a} : callR 1 den (.ok [a]) = den [a] := rfl
theorem call2 {den a b} : callR 2 den (.ok [a, b]) = den [a, b] := rfl
theorem call3 {den a b c} : callR 3 den (.ok [a, b, c]) = den [a, b, c] := rfl
theorem call4 {den a b c d} : callR 4 den (.ok [a, b, c, d]) = den [a, b, c, d] := rfl
theorem call5 {den a b c d e} : callR 5 den (.ok [a, b, c, d, e]) = den [a, b, c, d, e] := rfl
theorem tstR_ok {b} : tstR (.ok (.bl b)) = .ok b := rfl
theorem seqR_nx {t} : seqR (.nx ρ) t = t ρ := rfl
theorem seqR_rt {d t} : seqR (.rt d) t = .rt d := rfl
theorem seqR_ex {n t} : seqR (.ex n ρ) t = .ex n ρ := rfl
theorem retR_ok {d} : retR (.ok d) ρ = .rt d := rfl
theorem retR_ex {n} : retR (.ex n) ρ = .ex n ρ := rfl
theorem asgR_n {d i} : asgR (.ok d) ρ (gn i) = .nx (ρ.set i (.z d)) := rfl
theorem asgR_ex {n g} : asgR (.ex n) ρ g = .ex n ρ := rfl
theorem asgR_2 {a b i j} : asgR (.ok (.tup [a, b])) ρ (gt 2 (gsc (gn i) (gsc (gn j) gsn))) = .nx ((ρ.set i (.z a)).set j (.z b)) := rfl
theorem asgR_2L {a b i j} : asgR (.ok (.lst [a, b])) ρ (gt 2 (gsc (gn i) (gsc (gn j) gsn))) = .nx ((ρ.set i (.z a)).set j (.z b)) := rfl
theorem asgR_3 {a b c i j k} : asgR (.ok (.tup [a, b, c])) ρ (gt 3 (gsc (gn i) (gsc (gn j) (gsc (gn k) gsn)))) = .nx (((ρ.set i (.z a)).set j (.z b)).set k (.z c)) := rfl
theorem ifR_t {s t} : ifR (.ok true) s t ρ = s ρ := rfl
theorem ifR_f {s t} : ifR (.ok false) s t ρ = t ρ := rfl
theorem finR_rt {d} : finR (.rt d) = .ok d := rfl
theorem finR_nx : finR (.nx ρ) = .ok .non := rfl
theorem finR_ex {n} : finR (.ex n ρ) = .ex n := rfl
theorem andR_t {g} : andR (.ok true) g ρ = g ρ := rfl
theorem andR_f {g} : andR (.ok false) g ρ = .ok false := rfl
theorem orR_t {g} : orR (.ok true) g ρ = .ok true := rfl
theorem orR_f {g} : orR (.ok false) g ρ = g ρ := rfl
theorem notR_ok {b} : notR (.ok b) = .ok (!b) := rfl
theorem andER_t {g} : andER (.ok (.bl true)) g ρ = g ρ := rfl
theorem andER_f {g} : andER (.ok (.bl false)) g ρ = .ok (.bl false) := rfl
theorem orER_t {g} : orER (.ok (.bl true)) g ρ = .ok (.bl true) := rfl
theorem orER_f {g} : orER (.ok (.bl false)) g ρ = g ρ := rfl
theorem notER_ok {b} : notER (.ok (.bl b)) = .ok (.bl (!b)) := rfl
theorem psmR_ok {i} : psmR (.ok (.int i)) = .ok (some i) := rfl
theorem slcR_ok {d lo hi} : slcR (.ok d) (.ok lo) (.ok hi) = ofO (slD d lo hi) := rfl
theorem loop_nil {g s} : loopD g s [] ρ = .nx ρ := rfl
theorem loop_cons {g s d ds ρ1 ρ'} (h : g ρ d = some ρ1) (h2 : s ρ1 = .nx ρ') : loopD g s (d :: ds) ρ = loopD g s ds ρ' := by
  show (match g ρ d with | none => SR.bad | some ρ1 => match s ρ1 with | .nx ρ' => loopD g s ds ρ' | .ct ρ' => loopD g s ds ρ' | .bk ρ' => .nx ρ' | r => r) = _
  rw [h]
  show (match s ρ1 with | .nx ρ' => loopD g s ds ρ' | .ct ρ' => loopD g s ds ρ' | .bk ρ' => .nx ρ' | r => r) = _
  rw [h2]
theorem forR_ok {ds g s} : forR (.ok ds) g s ρ = loopD g s ds ρ := rfl
theorem mkTR_ok {ds : List D} (h : ds.length ≤ 1000000) : mkTR (.ok ds) = .ok (.tup ds) := by
  show (if ds.length ≤ sizeLine then Res.ok (D.tup ds) else .bad) = _
  rw [if_pos (by rw [sizeLine_eq]; omega)]
theorem mkLR_ok {ds : List D} (h : ds.length ≤ 1000000) : mkLR (.ok ds) = .ok (.lst ds) := by
  show (if ds.length ≤ sizeLine then Res.ok (D.lst ds) else .bad) = _
  rw [if_pos (by rw [sizeLine_eq]; omega)]
theorem chn_le {i j k} : chnR leD leD (.ok (.int i)) (.ok (.int j)) (.ok (.int k)) = .ok (.bl (decide (i ≤ j) && decide (j ≤ k))) := by
  show (if decide (i ≤ j) = true then Res.ok (D.bl (decide (j ≤ k))) else .ok (.bl false)) = _
  cases decide (i ≤ j) <;> rfl
theorem chn_lt {i j k} : chnR leD ltD (.ok (.int i)) (.ok (.int j)) (.ok (.int k)) = .ok (.bl (decide (i ≤ j) && decide (j < k))) := by
  show (if decide (i ≤ j) = true then Res.ok (D.bl (decide (j < k))) else .ok (.bl false)) = _
  cases decide (i ≤ j) <;> rfl
/-! the operators on what they are for -/
theorem add_ii {i j} : addD (.int i) (.int j) = some (.int (i + j)) := rfl
theorem sub_ii {i j} : subD (.int i) (.int j) = some (.int (i - j)) := rfl
theorem neg_i {i} : negD (.int i) = some (.int (-i)) := rfl
theorem lt_ii {i j} : ltD (.int i) (.int j) = some (.bl (decide (i < j))) := rfl
theorem le_ii {i j} : leD (.int i) (.int j) = some (.bl (decide (i ≤ j))) := rfl
theorem gt_ii {i j} : gtD (.int i) (.int j) = some (.bl (decide (j < i))) := rfl
theorem ge_ii {i j} : geD (.int i) (.int j) = some (.bl (decide (j ≤ i))) := rfl
theorem eq_ii {i j} : eqD (.int i) (.int j) = some (.bl (i == j)) := by simp [eqD, eqOk, flatD, eqd]
theorem ne_ii {i j} : neD (.int i) (.int j) = some (.bl (!(i == j))) := by simp [neD, eqOk, flatD, eqd]
theorem eq_ss {i j} : eqD (.str i) (.str j) = some (.bl (i == j)) := by simp [eqD, eqOk, flatD, eqd]
theorem ne_ss {i j} : neD (.str i) (.str j) = some (.bl (!(i == j))) := by simp [neD, eqOk, flatD, eqd]
theorem eq_bb {i j} : eqD (.bl i) (.bl j) = some (.bl (i == j)) := by simp [eqD, eqOk, flatD, eqd]
theorem ne_bb {i j} : neD (.bl i) (.bl j) = some (.bl (!(i == j))) := by simp [neD, eqOk, flatD, eqd]
theorem mul_l {i j : Int} (h : -(2 ^ 64) < i ∧ i < 2 ^ 64) : mulD (.int i) (.int j) = some (.int (i * j)) := by
  show (if CMulD i j then some (D.int (i * j)) else none) = _
  rw [if_pos (.inl (.inl h))]
theorem mul_r {i j : Int} (h : -(2 ^ 64) < j ∧ j < 2 ^ 64) : mulD (.int i) (.int j) = some (.int (i * j)) := by
  show (if CMulD i j then some (D.int (i * j)) else none) = _
  rw [if_pos (.inl (.inr h))]
theorem log2_lt {n k : Nat} (h : n < 2 ^ k) (hk : 0 < k) : n.log2 < k := by
  by_cases h0 : n = 0
  · subst h0; simpa using hk
  · exact (Nat.log2_lt h0).mpr h
theorem mul_w {i j : Int} (h1 : i.natAbs < 2 ^ 100000) (h2 : j.natAbs < 2 ^ 100000) : mulD (.int i) (.int j) = some (.int (i * j)) := by
  show (if CMulD i j then some (D.int (i * j)) else none) = _
  have a := log2_lt h1 (by decide)
  have b := log2_lt h2 (by decide)
  rw [if_pos (.inr (show i.natAbs.log2 + j.natAbs.log2 < 1000000 by omega))]
theorem div_s {i j : Int} (h : 0 < j ∧ j < 2 ^ 64) : divD (.int i) (.int j) = some (.int (i / j)) := by
  show (if CDivW i j then some (D.int (i / j)) else none) = _
  have a : j.natAbs.log2 < 64 := log2_lt (by omega) (by decide)
  rw [if_pos ⟨h.1, by omega⟩]
theorem mod_p {i j : Int} (h : 0 < j) : modD (.int i) (.int j) = some (.int (i % j)) := by
  show (if 0 < j then some (D.int (i % j)) else none) = _
  rw [if_pos h]
theorem ix_t {xs : List D} {i : Int} (h : 0 ≤ i ∧ i < xs.length) : ixD (.tup xs) (.int i) = some (xs.getD i.toNat .non) := by
  show atI xs i = _
  unfold atI ixN
  rw [if_pos h.1, if_pos h.2]
  show xs[i.toNat]? = _
  rw [List.getElem?_eq_getElem (by omega), List.getD_eq_getElem?_getD, List.getElem?_eq_getElem (by omega)]
  rfl
theorem ix_l {xs : List D} {i : Int} (h : 0 ≤ i ∧ i < xs.length) : ixD (.lst xs) (.int i) = some (xs.getD i.toNat .non) := by
  show atI xs i = _
  unfold atI ixN
  rw [if_pos h.1, if_pos h.2]
  show xs[i.toNat]? = _
  rw [List.getElem?_eq_getElem (by omega), List.getD_eq_getElem?_getD, List.getElem?_eq_getElem (by omega)]
  rfl
theorem ix_tm {xs : List D} {i m : Int} (h : 0 < m ∧ m ≤ xs.length) : ixD (.tup xs) (.int (i % m)) = some (xs.getD (i % m).toNat .non) := ix_t ⟨Int.emod_nonneg _ (by omega), Int.lt_of_lt_of_le (Int.emod_lt_of_pos _ h.1) h.2⟩
theorem ix_lm {xs : List D} {i m : Int} (h : 0 < m ∧ m ≤ xs.length) : ixD (.lst xs) (.int (i % m)) = some (xs.getD (i % m).toNat .non) := ix_l ⟨Int.emod_nonneg _ (by omega), Int.lt_of_lt_of_le (Int.emod_lt_of_pos _ h.1) h.2⟩
theorem ix_t0 {a : D} {r : List D} : ixD (.tup (a :: r)) (.int 0) = some a := by
  show atI (a :: r) 0 = _
  unfold atI ixN
  rw [if_pos (by decide), if_pos (by simp only [List.length_cons]; omega)]
  rfl
theorem ix_t1 {a b : D} {r : List D} : ixD (.tup (a :: b :: r)) (.int 1) = some b := by
  show atI (a :: b :: r) 1 = _
  unfold atI ixN
  rw [if_pos (by decide), if_pos (by simp only [List.length_cons]; omega)]
  rfl
theorem ix_t2 {a b c : D} {r : List D} : ixD (.tup (a :: b :: c :: r)) (.int 2) = some c := by
  show atI (a :: b :: c :: r) 2 = _
  unfold atI ixN
  rw [if_pos (by decide), if_pos (by simp only [List.length_cons]; omega)]
  rfl
theorem ix_t3 {a b c d : D} {r : List D} : ixD (.tup (a :: b :: c :: d :: r)) (.int 3) = some d := by
  show atI (a :: b :: c :: d :: r) 3 = _
  unfold atI ixN
  rw [if_pos (by decide), if_pos (by simp only [List.length_cons]; omega)]
  rfl
theorem ix_t4 {a b c d e : D} {r : List D} : ixD (.tup (a :: b :: c :: d :: e :: r)) (.int 4) = some e := by
  show atI (a :: b :: c :: d :: e :: r) 4 = _
  unfold atI ixN
  rw [if_pos (by decide), if_pos (by simp only [List.length_cons]; omega)]
  rfl
theorem ix_t5 {a b c d e f : D} {r : List D} : ixD (.tup (a :: b :: c :: d :: e :: f :: r)) (.int 5) = some f := by
  show atI (a :: b :: c :: d :: e :: f :: r) 5 = _
  unfold atI ixN
  rw [if_pos (by decide), if_pos (by simp only [List.length_cons]; omega)]
  rfl
theorem ix_t6 {a b c d e f g : D} {r : List D} : ixD (.tup (a :: b :: c :: d :: e :: f :: g :: r)) (.int 6) = some g := by
  show atI (a :: b :: c :: d :: e :: f :: g :: r) 6 = _
  unfold atI ixN
  rw [if_pos (by decide), if_pos (by simp only [List.length_cons]; omega)]
  rfl
theorem ix_t7 {a b c d e f g h : D} {r : List D} : ixD (.tup (a :: b :: c :: d :: e :: f :: g :: h :: r)) (.int 7) = some h := by
  show atI (a :: b :: c :: d :: e :: f :: g :: h :: r) 7 = _
  unfold atI ixN
  rw [if_pos (by decide), if_pos (by simp only [List.length_cons]; omega)]
  rfl
theorem ix_l0 {a : D} {r : List D} : ixD (.lst (a :: r)) (.int 0) = some a := by
  show atI (a :: r) 0 = _
  unfold atI ixN
  rw [if_pos (by decide), if_pos (by simp only [List.length_cons]; omega)]
  rfl
theorem ix_l1 {a b : D} {r : List D} : ixD (.lst (a :: b :: r)) (.int 1) = some b := by
  show atI (a :: b :: r) 1 = _
  unfold atI ixN
  rw [if_pos (by decide), if_pos (by simp only [List.length_cons]; omega)]
  rfl
theorem ix_l2 {a b c : D} {r : List D} : ixD (.lst (a :: b :: c :: r)) (.int 2) = some c := by
  show atI (a :: b :: c :: r) 2 = _
  unfold atI ixN
  rw [if_pos (by decide), if_pos (by simp only [List.length_cons]; omega)]
  rfl
theorem ix_l3 {a b c d : D} {r : List D} : ixD (.lst (a :: b :: c :: d :: r)) (.int 3) = some d := by
  show atI (a :: b :: c :: d :: r) 3 = _
  unfold atI ixN
  rw [if_pos (by decide), if_pos (by simp only [List.length_cons]; omega)]
  rfl
theorem ix_l4 {a b c d e : D} {r : List D} : ixD (.lst (a :: b :: c :: d :: e :: r)) (.int 4) = some e := by
  show atI (a :: b :: c :: d :: e :: r) 4 = _
  unfold atI ixN
  rw [if_pos (by decide), if_pos (by simp only [List.length_cons]; omega)]
  rfl
theorem ix_l5 {a b c d e f : D} {r : List D} : ixD (.lst (a :: b :: c :: d :: e :: f :: r)) (.int 5) = some f := by
  show atI (a :: b :: c :: d :: e :: f :: r) 5 = _
  unfold atI ixN
  rw [if_pos (by decide), if_pos (by simp only [List.length_cons]; omega)]
  rfl
theorem ix_l6 {a b c d e f g : D} {r : List D} : ixD (.lst (a :: b :: c :: d :: e :: f :: g :: r)) (.int 6) = some g := by
  show atI (a :: b :: c :: d :: e :: f :: g :: r) 6 = _
  unfold atI ixN
  rw [if_pos (by decide), if_pos (by simp only [List.length_cons]; omega)]
  rfl
theorem ix_l7 {a b c d e f g h : D} {r : List D} : ixD (.lst (a :: b :: c :: d :: e :: f :: g :: h :: r)) (.int 7) = some h := by
  show atI (a :: b :: c :: d :: e :: f :: g :: h :: r) 7 = _
  unfold atI ixN
  rw [if_pos (by decide), if_pos (by simp only [List.length_cons]; omega)]
  rfl
theorem len_t {xs : List D} : lenD [.tup xs] = some (.int xs.length) := rfl
theorem len_l {xs : List D} : lenD [.lst xs] = some (.int xs.length) := rfl
theorem len_a {xs : List Int} : lenD [.arr xs] = some (.int xs.length) := rfl
theorem abs_i {i : Int} : absD [.int i] = some (.int (if i < 0 then -i else i)) := rfl
theorem max_ii {i j : Int} : maxD [.int i, .int j] = some (.int (if j > i then j else i)) := rfl
theorem min_ii {i j : Int} : minD [.int i, .int j] = some (.int (if j < i then j else i)) := rfl
theorem int_i {i : Int} : intD [.int i] = some (.int i) := rfl
theorem int_b {b : Bool} : intD [.bl b] = some (.int (if b then 1 else 0)) := rfl
theorem int_t : intD [.bl true] = some (.int 1) := rfl
theorem int_f : intD [.bl false] = some (.int 0) := rfl
end
end DN
namespace DN
open PySem PySem.Spec PyProof.Rows L2
instance : Decidable (CPow i j) := by unfold CPow; infer_instance
end DN
namespace DN
open PySem PySem.Spec PyProof.Rows L2
open LamX (Tabs ExtN)

/-! ### methods of texts -/
def rDm (K : PySem.W.Frag) (T : List (Addr × Str)) (G : D → List D → Option D) : V → List V → Hp → VK → Prop := fun x xs H Q =>
  ∃ F d ds z, Fz F H ∧ Rp K F x d ∧ RpAll K F xs ds ∧ G d ds = some z ∧ ∀ v F' H', Nx T F H F' H' → Rp K F' v z → Q v H'
def met (G : D → List D → Option D) (f : Rho → Res D) (g : Rho → Res (List D)) : Rho → Res D := fun ρ => (f ρ).bind fun d => match d with
  | .str x => (g ρ).bind fun ds => ofO (G (.str x) ds)
  | _ => .bad
section
variable {X : Cx} {T : List (Addr × Str)} {W : WX}
theorem e_met {name : Str} {id : String} {G : D → List D → Option D} {o e : Expr} {es : List Expr} {f : Rho → Res D} {g : Rho → Res (List D)} {apos pos : Pos} (pa : PlainAttrs "str") (slot : Slot "str" name id) (hty : typeOf (.builtin id) = pure (.type "method_descriptor")) (hm : MtR X id (rDm X.K T G)) (ho : DE X T W o f) (ha : DA X T W (e :: es) g)
    (h1 : attributeBase o name X.env (eval o X.env) = eval o X.env := by rfl) (h5 : ((backTo pos (starEach (e :: es) X.env)).all (fun x => !x.1) && (backToKw pos (keywordEach [] X.env)).all (fun x => x.1.isSome) && decide ((e :: es).length + ([] : List Keyword).length + (if ([] : List Keyword).isEmpty then 0 else 1) < 30)) = true := by rfl) (h2 : (apos.endLine == pos.line) = true := by rfl) (h3 : starEach (e :: es) X.env = (false, eval e X.env) :: starEach es X.env := by rfl) (h4 : (backTo pos (starEach es X.env)).any (·.1) = false := by rfl) : DE X T W (.Call (.Attribute o name apos) (e :: es) [] pos) (met G f g) :=
  (pe_bm pa slot hty hm ho ha h1 h5 h2 h3 h4).to fun σ H Q ⟨ρ, F, a, h⟩ => by
    refine ⟨ρ, F, a, (aft.bind (R := Rp X.K) h).imp fun d _ v F1 H1 _ _ q => ?_⟩
    obtain ⟨b, F2, _, n, rv, q⟩ := q
    cases rv with
    | str x =>
      refine ⟨rfl, ρ, F2, a.nx n, (aft.bind (R := RpAll X.K) q).imp fun ds _ vs F3 H3 _ _ q => ?_⟩
      obtain ⟨ds', F4, _, n2, rs, q⟩ := q
      obtain ⟨z, hz, q⟩ := ofO_ok q
      exact ⟨F4, .str x, ds', z, n2.z, .str x, rs, hz, q⟩
    | _ => exact q.elim
def startsD : D → List D → Option D
  | .str a, [.str b] => some (.bl (Txt.startswith a b))
  | _, _ => none
theorem m_starts : MtR X "str.startswith" (rDm X.K T startsD) := by
  intro pins s σ H x xs v us Q I rx rs h
  obtain ⟨F, d, ds, z, hz, rd, rds, hG, q⟩ := h
  unfold startsD at hG
  split at hG
  · cases rd
    obtain ⟨v1, rfl, r1⟩ := all1 rds
    cases r1
    cases hG
    exact mt_startswith pins s σ H _ _ v us Q I rx rs ⟨_, _, rfl, rfl, done0 hz q (.bl _)⟩
  · cases hG
end
/-! evaluating -/
end DN
namespace DN
open PySem PySem.Spec PyProof.Rows L2
open LamX (Tabs ExtN CodeO GivesTo tLam LamS TabB lamCx lamEnv)

/-! ### list.count, flat items -/
section
variable {X : Cx}
end

/-! ### told: what an own error is told as -/
section
variable {X : Cx} {T : List (Addr × Str)}
end
end DN
namespace DN
open PySem PySem.Spec PyProof.Rows L2
open LamX (Tabs ExtN CodeO GivesTo tLam LamS TabB lamCx lamEnv)

section
variable {X : Cx} {T : List (Addr × Str)} {W : WX}
end
theorem exc_n {K : PySem.W.Frag} {h : Heap} {mg : Str → Option Value} {x : Str} (X : K.In h) (G : h.Ns mainGlobals mg) (c : (He.Fa.glo x).ok K = true) (e : (He.Fa.exc x).ok K = true) : ExcN K mg x := by
  obtain ⟨h1, h2, h3, h4⟩ := He.exc_ok e
  exact ⟨h1, h2, h3, h4, He.glo_ok X G c⟩
end DN
namespace DN
open PySem PySem.Spec PyProof.Rows L2
open LamX (Tabs ExtN)
section
variable {X : Cx} {T : List (Addr × Str)} {W : WX}
end
end DN
namespace DN
open PySem PySem.Spec PyProof.Rows L2
open LamX (Tabs ExtN)

/-! ### a module's dict of defs, text keys -/
theorem keys_miss {P : Params} {z : Str} : ∀ {l : List DictEntry} {ks : List Str}, l.map He.keyOf = He.keysIn P ks → z ∉ ks → l.find? (·.key.isStr z) = none ∧ l.any (·.refKey) = false
  | [], _, _, _ => ⟨rfl, rfl⟩
  | e :: r, [], h, _ => by cases h
  | e :: r, k :: ks, h, hz => by
    have h1 : He.keyOf e :: r.map He.keyOf = some (k, PyData.keyHash P k) :: He.keysIn P ks := h
    injection h1 with h2 h3
    obtain ⟨i1, i2⟩ := keys_miss h3 (fun q => hz (List.mem_cons_of_mem _ q))
    have hk : ∃ t, e.key = .str k t := by
      unfold He.keyOf at h2
      split at h2
      · rename_i x t q
        obtain ⟨h5, _⟩ := Prod.mk.inj (Option.some.inj h2)
        exact ⟨t, by rw [q, h5]⟩
      · cases h2
    obtain ⟨t, hk⟩ := hk
    have n1 : e.key.isStr z = false := by
      rw [hk]
      show (k == z) = false
      exact beq_eq_false_iff_ne.mpr fun q => hz (by rw [q]; exact List.mem_cons_self)
    have n2 : e.refKey = false := by unfold DictEntry.refKey; rw [hk]
    refine ⟨?_, ?_⟩
    · rw [List.find?_cons, n1]; exact i1
    · rw [List.any_cons, n2, i2]; rfl
/-- the module's dict x: text keys, defs -/
structure DicF (w : World) (K : PySem.W.Frag) (mg : Str → Option Value) (x : Str) (kvs : List (Str × Str)) : Prop where
  kd : ∃ es n, KDict K w (He.ga K x) es n ∧ es.toList.map He.keyOf = He.keysIn w.params (kvs.map Prod.fst)
  vals : ∀ q ∈ kvs, ∃ u, PySem.W.nsIn K (He.ga K x) q.1 = some (some u) ∧ RelV (.ref (He.ga K q.2)) u
  g : mg x = some (.ref (He.ga K x))
theorem DicF.ns {w : World} {K : PySem.W.Frag} {mg : Str → Option Value} {x : Str} {kvs : List (Str × Str)} (D : DicF w K mg x kvs) (z : Str) : ∃ r, PySem.W.nsIn K (He.ga K x) z = some r ∧ r.isSome = (kvs.map Prod.fst).contains z := by
  by_cases h : z ∈ kvs.map Prod.fst
  · obtain ⟨q, hq, rfl⟩ := List.mem_map.mp h
    obtain ⟨u, h1, _⟩ := D.vals q hq
    exact ⟨some u, h1, by rw [List.contains_iff_mem.mpr h]; rfl⟩
  · obtain ⟨es, n, kd, hk⟩ := D.kd
    obtain ⟨h1, h2⟩ := keys_miss hk h
    refine ⟨none, ?_, ?_⟩
    · unfold PySem.W.nsIn
      rw [kd.at_]
      simp only [h1, h2]
      rfl
    · have : (kvs.map Prod.fst).contains z = false := by
        rw [Bool.eq_false_iff]
        exact fun q => h (List.contains_iff_mem.mp q)
      rw [this]; rfl
section
variable {X : Cx} {T : List (Addr × Str)} {W : WX} {F0 H0 : Hp}
/-! ### a call of a name that holds a def -/
def callF (i : Nat) (disp : Str → Option (List D → Res D)) (f : Rho → Res (List D)) : Rho → Res D := fun ρ => match ρ[i]? with
  | some (.z (.fn n)) => (match disp n with
    | some g => (f ρ).bind g
    | none => .bad)
  | _ => .bad
theorem e_callF {k i : Nat} {x : Str} {E : XK} {disp : Str → Option (List D → Res D)} {e : Expr} {es : List Expr} {p pos : Pos} {f : Rho → Res (List D)}
    (O : ∀ n g, disp n = some g → ∃ den m j, j ≤ k ∧ OkD X.prog X.w X.K X.mg X.base T j n m den ∧ ∀ ds, g ds = if ds.length = m then den ds else .bad) (hr : Room k X.A) (tk : Takes X (WofE E)) (hN : X.N[i]? = some x) (hv : Vis X.env.scope x) (ha : DA X T (WofE E) (e :: es) f)
    (hdb : (x == ("__debug__" : Str)) = false := by decide) (hcd : (x == ("__classdict__" : Str)) = false := by decide) (he : starEach (e :: es) X.env = (false, eval e X.env) :: starEach es X.env := by rfl) (hpl : (backTo pos (starEach es X.env)).any (·.1) = false := by rfl) :
    DE X T (WofE E) (.Call (.Name x p) (e :: es) [] pos) (callF i disp f) := by
  refine ⟨fun pins s σ H Q I h => ?_⟩
  obtain ⟨ρ, F, a, h⟩ := h
  unfold callF at h
  cases e1 : ρ[i]? with
  | none => rw [e1] at h; exact h.elim
  | some en =>
    rw [e1] at h
    cases en with
    | u => exact h.elim
    | o d => exact h.elim
    | z d =>
      cases d with
      | fn n =>
        have h : aft (Rp X.K) X.K T (WofE E) σ F H Q (match disp n with
          | some g => (f ρ).bind g
          | none => .bad) := h
        obtain ⟨v, h1, h2⟩ := a.r.z i _ e1
        cases h2
        cases e2 : disp n with
        | none => rw [e2] at h; exact h.elim
        | some g =>
          rw [e2] at h
          have h : aft (Rp X.K) X.K T (WofE E) σ F H Q ((f ρ).bind g) := h
          obtain ⟨den, m, j, hj, Ok, hdisp⟩ := O n g e2
          obtain ⟨fd, ps, G, b⟩ := Ok.ex
          refine (pe_callL (i := i) (E := E) (dvs := []) (ds := []) G (hr.mono hj) hN hv Ok.kp b .nil (passes_call tk fun _ _ _ _ q => q) ha hdb hcd he hpl).run pins s σ H Q I ⟨h1, ρ, F, a, (aft.bind (R := RpAll X.K) h).imp fun ds _ vs F1 H1 _ _ q => ?_⟩
          obtain ⟨ds', F2, _, nx, rs, q⟩ := q
          rw [List.append_nil]
          rw [hdisp] at q
          split at q
          · rename_i hl
            refine ⟨F2, ds', nx.z, nx.tab a.t, rs, hl, ?_⟩
            cases e : den ds' with
            | ok d => rw [e] at q; exact q
            | ex m => rw [e] at q; exact q
            | bad => rw [e] at q; exact q.elim
          · exact q.elim
      | _ => exact h.elim
/-! ### try with two handlers -/
end
end DN
namespace DN
open PySem PySem.Spec PyProof.Rows L2
open LamX (Tabs ExtN)

theorem lt1 {a c : Nat} (h : a + 64 < c) : a + 1 < c := by omega
theorem tup_strs {K : PySem.W.Frag} {H : Hp} {a : Addr} {zs : List Str} (h : SqT K H a ((zs.map He.Dv.str).map (He.Dv.v K))) : SqT K H a (zs.map V.str) := by
  rw [List.map_map] at h
  exact h
section
variable {X : Cx} {T : List (Addr × Str)} {W : WX} {F0 H0 : Hp}
/-! ### a display of text keys that is used at once -/
structure DP (X : Cx) (T : List (Addr × Str)) (W : WX) (pos : Pos) (keys : List (Option Expr)) (values : List Expr) (ks : List Str) (f : Rho → Res (List D)) : Prop where
  ex : ∃ trs, PPs X pos keys values trs ∧ ∀ σ H (Q : List (V × V) → Hp → Prop), tA X.K T W f σ H (fun vs H' => Q ((ks.zip vs).map fun q => (V.str q.1, q.2)) H') → tPairs trs σ H Q
  len : keys.length = ks.length
  some : keys.all (·.isSome) = true
  vlen : keys.length = values.length
theorem dp_nil {pos : Pos} : DP X T W pos [] [] [] anil := ⟨⟨[], pps_nil, fun σ H Q ⟨ρ, F, a, h⟩ => h [] F H (Nx.refl a.z) .nil⟩, rfl, rfl, rfl⟩
theorem dp_cons {pos p : Pos} {j : Nat} {k : Str} {v : Expr} {keys : List (Option Expr)} {values : List Expr} {ks : List Str} {f : Rho → Res D} {g : Rho → Res (List D)} (hv : DE X T W v f) (hr : DP X T W pos keys values ks g) :
    DP X T W pos (some (.Constant (.str k) j p) :: keys) (v :: values) (k :: ks) (acons f g) := by
  obtain ⟨trs, h1, h2⟩ := hr.ex
  refine ⟨⟨_, pps_cons pe_str hv h1, fun σ H Q ⟨ρ, F, a, h⟩ => ?_⟩, by rw [List.length_cons, List.length_cons, hr.len], by rw [List.all_cons, hr.some]; rfl, by rw [List.length_cons, List.length_cons, hr.vlen]⟩
  show tE X.K T W f σ H fun y H2 => tPairs trs σ H2 fun ps H3 => Q ((V.str k, y) :: ps) H3
  refine ⟨ρ, F, a, (aft.bind (R := Rp X.K) h).imp fun d _ v F1 H1 _ _ q => ?_⟩
  obtain ⟨b, F2, _, n, rv, q⟩ := q
  refine h2 σ H1 _ ⟨ρ, F2, a.nx n, (aft.bind (R := RpAll X.K) q).imp fun ds _ vs F3 H3 _ _ q => ?_⟩
  obtain ⟨ds', F4, _, n2, rs, q⟩ := q
  exact q.ok (Nx.refl n2.z) (.cons (rv.mono n2.f) rs)
theorem merge_new : ∀ (more acc : List (Key × V)), (∀ k ∈ more.map Prod.fst, k ∉ acc.map Prod.fst) → (more.map Prod.fst).Nodup → mergeK acc more = acc ++ more
  | [], acc, _, _ => by show acc = acc ++ []; rw [List.append_nil]
  | p :: r, acc, h, hn => by
    rw [List.map_cons, List.nodup_cons] at hn
    have e : putK acc p.1 p.2 = acc ++ [p] := by
      unfold putK
      rw [if_neg]
      intro z
      obtain ⟨q, hq, e⟩ := List.any_eq_true.mp z
      exact h p.1 List.mem_cons_self (by rw [← of_decide_eq_true e]; exact List.mem_map.mpr ⟨q, hq, rfl⟩)
    show mergeK (putK acc p.1 p.2) r = _
    rw [e, merge_new r (acc ++ [p]) (fun k hk hq => ?_) hn.2, List.append_assoc]
    · rfl
    · rw [List.map_append, List.mem_append] at hq
      rcases hq with hq | hq
      · exact h k (List.mem_cons_of_mem _ hk) hq
      · simp at hq
        rw [hq] at hk
        exact hn.1 hk
theorem zip_fst {α β : Type} : ∀ {a : List α} {b : List β}, a.length = b.length → (a.zip b).map Prod.fst = a
  | [], [], _ => rfl
  | x :: a, y :: b, h => by
    rw [List.zip_cons_cons, List.map_cons, zip_fst (by simpa using h)]
theorem val_look {K : PySem.W.Frag} {F : Hp} {z : Str} : ∀ {ks : List Str} {vs : List V} {ds : List D}, RpAll K F vs ds → ks.length = vs.length →
    ((∃ v d, valV (kvK ks vs) (Sum.inr z) = some v ∧ (ks.zip ds).lookup z = some d ∧ Rp K F v d) ∨ (valV (kvK ks vs) (Sum.inr z) = none ∧ (ks.zip ds).lookup z = none))
  | [], [], [], _, _ => .inr ⟨rfl, rfl⟩
  | k :: ks, v :: vs, d :: ds, .cons h t, hl => by
    by_cases e : k = z
    · subst e
      refine .inl ⟨v, d, valV_pos rfl, ?_, h⟩
      simp [List.lookup]
    · have e2 : (z == k) = false := beq_eq_false_iff_ne.mpr fun q => e q.symm
      have e3 : valV (kvK (k :: ks) (v :: vs)) (Sum.inr z) = valV (kvK ks vs) (Sum.inr z) := valV_neg (p := (Sum.inr k, v)) fun q => e (Sum.inr.inj q)
      have e4 : ((k :: ks).zip (d :: ds)).lookup z = (ks.zip ds).lookup z := by
        rw [List.zip_cons_cons, List.lookup_cons, e2]
      rw [e3, e4]
      exact val_look t (by simpa using hl)
theorem tabs_updD {T : List (Addr × Str)} {H : Hp} {p : Addr} {xs : List (Key × V)} {o : HO} (h : Tabs T H) (e : H p = some (.dK xs)) : Tabs T (upd H p o) := fun q hq => by
  obtain ⟨ps, h1, h2, h3⟩ := h q hq
  refine ⟨ps, ?_, h2, fun pos cv hc => ?_⟩
  · rw [upd_ne fun z => by rw [z, e] at h1; cases h1]; exact h1
  · obtain ⟨c, e1, e2⟩ := h3 pos cv hc
    refine ⟨c, e1, ?_⟩
    rw [upd_ne fun z => by rw [z, e] at e2; unfold LamX.CodeO at e2; cases e2]; exact e2
/-- a dict laid empty at p, filled behind the values -/
theorem nx_fill {F H F1 H1 : Hp} {p : Addr} {o : HO} (z : Fz F H) (hp : H p = none) (n1 : Nx T F (upd H p (.dK [])) F1 H1) : Nx T F H F1 (upd H1 p o) ∧ H1 p = some (.dK []) := by
  have fp : F p = none := by
    cases q : F p with
    | none => rfl
    | some u =>
      have := z.sub _ _ q
      rw [hp] at this; cases this
  have k1 : H1 p = some (.dK []) := n1.keep upd_same fun ps q => by cases q
  have f1 : F1 p = none := n1.out (a := p) (o := .dK []) upd_same (fun ps q => by cases q) fp
  refine ⟨⟨n1.f, ⟨fun x u e => ?_, n1.z.nt⟩, fun b u e nt => ?_, fun x u e => ?_, fun t => ?_⟩, k1⟩
  · rw [upd_ne fun q => by rw [q, f1] at e; cases e]
    exact n1.z.sub _ _ e
  · have hb : b ≠ p := ne_of_none e hp
    rw [upd_ne hb]
    exact n1.h b u (by rw [upd_ne hb]; exact e) nt
  · rcases n1.new x u e with h | h
    · exact .inl h
    · exact .inr fun o' e' => h o' (by rw [upd_ne (ne_of_none e' hp)]; exact e')
  · exact tabs_updD (n1.tab ((Nx.lay (T := T) z hp).tab t)) k1
end
end DN
namespace DN
open PySem PySem.Spec PyProof.Rows L2
open LamX (Tabs ExtN)

section
variable {X : Cx} {T : List (Addr × Str)} {W : WX} {F0 H0 : Hp}
/-! ### a display of text keys, its item taken at once -/
def dixD (ks : List Str) (f : Rho → Res (List D)) (fe : Rho → Res D) : Rho → Res D := fun ρ => (f ρ).bind fun ds => if ds.length = ks.length then (fe ρ).bind fun k => (match k with
  | .str z => ofO ((ks.zip ds).lookup z)
  | _ => .bad) else .bad
theorem e_dix {pos spos : Pos} {keys : List (Option Expr)} {values : List Expr} {ks : List Str} {f : Rho → Res (List D)} {e : Expr} {fe : Rho → Res D} (hu : X.A.units + 1 < cLine) (hd : DP X T W pos keys values ks f) (he : DE X T W e fe) (h0 : keys ≠ []) (h15 : ks.length ≤ 15) (hnd : ks.Nodup) (hs : NoSl e) :
    DE X T W (.Subscript (.Dict keys values pos) e spos) (dixD ks f fe) := by
  obtain ⟨trs, h1, ht⟩ := hd.ex
  refine (pe_dget hu (pe_disp h1 hd.some hd.vlen h0 (by rw [hd.len]; exact h15)) he hs).to fun σ H Q ⟨ρ, F, a, h⟩ => ?_
  intro p hp
  have n0 : Nx T F H F (upd H p (.dK [])) := Nx.lay a.z hp
  refine ht σ _ _ ⟨ρ, F, a.nx n0, ((aft.bind (R := RpAll X.K) (aft.mono n0 h))).imp fun ds _ vs F1' H1 _ _ q => ?_⟩
  obtain ⟨ds', F1, e', n1, rv, _⟩ := q
  obtain ⟨nf, k1⟩ := nx_fill (o := .dK (kvK ks vs)) a.z hp n1
  have h' := aft.mono nf h
  unfold dixD at h'
  rw [e'] at h'
  have h' : aft (Rp X.K) X.K T W σ F1 (upd H1 p (.dK (kvK ks vs))) Q (if ds'.length = ks.length then (fe ρ).bind fun k => (match k with
    | .str z => ofO ((ks.zip ds').lookup z)
    | _ => .bad) else .bad) := h'
  by_cases hl : ds'.length = ks.length
  · rw [if_pos hl] at h'
    have hlv : ks.length = vs.length := by rw [rv.length, hl]
    have hm : mergeK [] (kvK ks vs) = kvK ks vs := by
      rw [merge_new _ _ (fun k _ q => by cases q)]
      · rfl
      · unfold kvK
        rw [List.map_map]
        have e3 : (ks.zip vs).map (Prod.fst ∘ fun q => ((Sum.inr q.1 : Key), q.2)) = ks.map Sum.inr := by
          have : (Prod.fst ∘ fun q : Str × V => ((Sum.inr q.1 : Key), q.2)) = Sum.inr ∘ Prod.fst := rfl
          rw [this, ← List.map_map, zip_fst hlv]
        rw [e3]
        exact List.Pairwise.map _ (fun _ _ q z => q (Sum.inr.inj z)) hnd
    refine ⟨k1, kvK ks vs, ?_, ?_, ?_⟩
    · unfold kvK
      rw [List.map_map]
      rfl
    · unfold kvK
      rw [List.length_map, List.length_zip]
      omega
    · rw [hm]
      refine ⟨ρ, F1, a.nx nf, (aft.bind (R := Rp X.K) h').imp fun d _ y F2 H2 _ _ q => ?_⟩
      obtain ⟨k, F3, _, n3, ry, q⟩ := q
      have kp : H2 p = some (.dK (kvK ks vs)) := n3.keep upd_same fun ps z => by cases z
      cases ry with
      | str x =>
        have q : aft (Rp X.K) X.K T W σ F3 H2 Q (ofO ((ks.zip ds').lookup x)) := q
        rcases val_look (z := x) (RpAll.mono n3.f rv) hlv with ⟨v, d, w1, w2, w3⟩ | ⟨w1, w2⟩
        · rw [w2] at q
          exact ⟨p, v, rfl, .inl ⟨_, Sum.inr x, .inl kp, rfl, w1.symm⟩, q v F3 H2 (Nx.refl n3.z) w3⟩
        · rw [w2] at q
          exact q.elim
      | _ => exact q.elim
  · rw [if_neg hl] at h'
    exact h'.elim
end
/-! ### a module's dict of texts -/
structure DicS (w : World) (K : PySem.W.Frag) (mg : Str → Option Value) (x : Str) (kvs : List (Str × Str)) : Prop where
  kd : ∃ es n, KDict K w (He.ga K x) es n ∧ es.toList.map He.keyOf = He.keysIn w.params (kvs.map Prod.fst)
  vals : ∀ q ∈ kvs, ∃ u, PySem.W.nsIn K (He.ga K x) q.1 = some (some u) ∧ RelV (.str q.2) u
  g : mg x = some (.ref (He.ga K x))
theorem DicS.ns {w : World} {K : PySem.W.Frag} {mg : Str → Option Value} {x : Str} {kvs : List (Str × Str)} (D : DicS w K mg x kvs) (z : Str) : ∃ r, PySem.W.nsIn K (He.ga K x) z = some r ∧ r.isSome = (kvs.map Prod.fst).contains z := by
  by_cases h : z ∈ kvs.map Prod.fst
  · obtain ⟨q, hq, rfl⟩ := List.mem_map.mp h
    obtain ⟨u, h1, _⟩ := D.vals q hq
    exact ⟨some u, h1, by rw [List.contains_iff_mem.mpr h]; rfl⟩
  · obtain ⟨es, n, kd, hk⟩ := D.kd
    obtain ⟨h1, h2⟩ := keys_miss hk h
    refine ⟨none, ?_, ?_⟩
    · unfold PySem.W.nsIn
      rw [kd.at_]
      simp only [h1, h2]
      rfl
    · have : (kvs.map Prod.fst).contains z = false := by
        rw [Bool.eq_false_iff]
        exact fun q => h (List.contains_iff_mem.mp q)
      rw [this]; rfl
section
variable {X : Cx} {T : List (Addr × Str)} {W : WX} {F0 H0 : Hp}
/-! ### a def of which nothing is promised: the recursion's ground -/
end
end DN
/-! lists of the frame's own: made, appended to, stored into, read, frozen -/
namespace DN
open PySem PySem.Spec PyProof.Rows L2
open LamX (Tabs ExtN)

def D.flat : D → Bool
  | .non => true
  | .bl _ => true
  | .int _ => true
  | .str _ => true
  | _ => false
def flatR : Res D → Res D
  | .ok d => if d.flat = true then .ok d else .bad
  | r => r
def frz (i : Nat) (ρ : Rho) : Rho := match ρ[i]? with
  | some (.o (.lst ds)) => ρ.set i (.z (.lst ds))
  | _ => ρ
def bor (i : Nat) (f : Rho → Res D) : Rho → Res D := fun ρ => flatR (f (frz i ρ))
def borQ (i : Nat) (f : Rho → Res Bool) : Rho → Res Bool := fun ρ => f (frz i ρ)
theorem Rp.flat {K : PySem.W.Frag} {F F' : Hp} {v : V} {d : D} (h : Rp K F v d) (e : d.flat = true) : Rp K F' v d := by
  cases h <;> first | exact .non | exact .bl _ | exact .int _ | exact .str _ | cases e
section
variable {K : PySem.W.Frag} {T : List (Addr × Str)} {W : WX} {F0 H0 F H : Hp} {σ : L2.St} {ρ : Rho}
theorem At.frz (a : At K T F H σ ρ) (i : Nat) : ∃ F1, At K T F1 H σ (frz i ρ) ∧ Sub F F1 ∧ (∀ F' H', Nx T F1 H F' H' → Nx T F H F H') ∧ (∀ F0 H0, Nx T F0 H0 F H → Ow H0 σ ρ → Nx T F0 H0 F1 H ∧ Ow H0 σ (frz i ρ)) := by
  have triv : ∃ F1, At K T F1 H σ ρ ∧ Sub F F1 ∧ (∀ F' H', Nx T F1 H F' H' → Nx T F H F H') ∧ (∀ F0 H0, Nx T F0 H0 F H → Ow H0 σ ρ → Nx T F0 H0 F1 H ∧ Ow H0 σ ρ) :=
    ⟨F, a, Sub.refl F, fun F' H' n => ⟨Sub.refl F, ⟨n.f.trans n.z.sub, a.z.nt⟩, n.h, fun _ _ h => .inl h, n.tab⟩, fun F0 H0 n o => ⟨n, o⟩⟩
  unfold DN.frz
  split
  · rename_i ds e
    obtain ⟨p, hs, hp, xs, hx, rx⟩ := a.r.o i _ e
    have sb : Sub F (upd F p (.lst xs)) := fun b o eb => by
      rw [upd_ne fun z => by rw [z, hp] at eb; cases eb]; exact eb
    have z1 : Fz (upd F p (.lst xs)) H := ⟨fun b o eb => by
      by_cases hb : b = p
      · subst hb; rw [upd_same] at eb; rw [← eb]; exact hx
      · rw [upd_ne hb] at eb; exact a.z.sub _ _ eb, fun b ps eb => by
      by_cases hb : b = p
      · subst hb; rw [upd_same] at eb; cases eb
      · rw [upd_ne hb] at eb; exact a.z.nt _ _ eb⟩
    have il : i < ρ.length := (List.getElem?_eq_some_iff.mp e).1
    refine ⟨upd F p (.lst xs), ⟨z1, a.t, ?_⟩, sb, fun F' H' n => ⟨Sub.refl F, ⟨sb.trans (n.f.trans n.z.sub), a.z.nt⟩, n.h, fun _ _ h => .inl h, n.tab⟩, fun F0 H0 n o => ⟨⟨n.f.trans sb, z1, n.h, fun b u eb => ?_, n.tab⟩, fun j d q h1 h2 => ?_⟩⟩
    · refine ⟨by rw [List.length_set]; exact a.r.len, fun j d hj => ?_, fun j d hj => ?_, fun j k d1 d2 q1 q2 hn h1 h2 h3 h4 => ?_⟩
      · rw [List.getElem?_set] at hj
        by_cases hij : i = j
        · subst hij
          rw [if_pos rfl, if_pos il] at hj
          cases hj
          exact ⟨_, hs, .lst upd_same (rx.mono sb)⟩
        · rw [if_neg hij] at hj
          obtain ⟨v, h1, h2⟩ := a.r.z j d hj
          exact ⟨v, h1, h2.mono sb⟩
      · rw [List.getElem?_set] at hj
        by_cases hij : i = j
        · subst hij
          rw [if_pos rfl, if_pos il] at hj
          cases hj
        · rw [if_neg hij] at hj
          obtain ⟨q, h1, h2, h3⟩ := a.r.o j d hj
          have hne : p ≠ q := a.r.ne i j _ _ p q hij e hj hs h1
          refine ⟨q, h1, by rw [upd_ne (Ne.symm hne)]; exact h2, ?_⟩
          cases d with
          | lst es => obtain ⟨ys, k1, k2⟩ := h3; exact ⟨ys, k1, k2.mono sb⟩
          | dK _ => exact h3
          | dT _ => exact h3
          | dic _ _ _ _ => obtain ⟨es, k1, k2⟩ := h3; exact ⟨es, k1, k2.mono sb⟩
          | ins _ _ _ => obtain ⟨dx, ws, k1, k2⟩ := h3; exact ⟨dx, ws, k1, k2.mono sb⟩
          | _ => exact h3.elim
      · rw [List.getElem?_set] at h1 h2
        have fj : i ≠ j := fun z => by rw [if_pos z] at h1; split at h1 <;> cases h1
        have fk : i ≠ k := fun z => by rw [if_pos z] at h2; split at h2 <;> cases h2
        rw [if_neg fj] at h1
        rw [if_neg fk] at h2
        exact a.r.ne j k d1 d2 q1 q2 hn h1 h2 h3 h4
    · by_cases hb : b = p
      · subst hb
        exact .inr fun o' e' => .inl (o i _ b e hs o' e')
      · rw [upd_ne hb] at eb; exact n.new _ _ eb
    · rw [List.getElem?_set] at h1
      by_cases hij : i = j
      · subst hij
        rw [if_pos rfl, if_pos il] at h1
        cases h1
      · rw [if_neg hij] at h1
        exact o j d q h1 h2
  · exact triv
end
section
variable {X : Cx} {T : List (Addr × Str)} {W : WX} {F0 H0 : Hp}
def sfrz (i : Nat) (s : Rho → SR) : Rho → SR := fun ρ => s (frz i ρ)
end

/-! ### made -/
def aftO (K : PySem.W.Frag) (T : List (Addr × Str)) (W : WX) (σ : L2.St) (F H : Hp) (Q : V → Hp → Prop) : Res D → Prop
  | .ok (.lst ds) => ∀ p vs F' H', Nx T F H F' H' → F' p = none → H' p = some (.lst vs) → RpAll K F' vs ds → (∀ o, H p = some o → ∃ ps, o = .tbl ps) → Q (.ref p) H'
  | .ok _ => False
  | .ex n => ∀ F' H', Nx T F H F' H' → W (.ref (He.ga K n)) none σ H'
  | .bad => False
def tO (K : PySem.W.Frag) (T : List (Addr × Str)) (W : WX) (f : Rho → Res D) : TE := fun σ H Q => ∃ ρ F, At K T F H σ ρ ∧ aftO K T W σ F H Q (f ρ)
def sown (f : Rho → Res D) (i : Nat) : Rho → SR := fun ρ => bindS (f ρ) ρ fun d => match d with
  | .lst ds => .nx (ρ.set i (.o (.lst ds)))
  | _ => .bad
section
variable {K : PySem.W.Frag} {T : List (Addr × Str)} {W : WX} {F0 H0 F H : Hp} {σ : L2.St} {ρ : Rho}
theorem frn {p : Addr} (z : Fz F H) (hp : H p = none) : F p = none := by
  cases q : F p with
  | none => rfl
  | some o => have := z.sub _ _ q; rw [hp] at this; cases this
theorem Rl.setO {i : Nat} {p : Addr} {vs : List V} {ds : List D} (r : Rl K F H σ ρ) (hp : F p = none) (hx : H p = some (.lst vs)) (rx : RpAll K F vs ds) (fr : ∀ (j : Nat) (d : D) (q : Addr), ρ[j]? = some (En.o d) → σ[j]? = some (some (V.ref q)) → q ≠ p) :
    Rl K F H (σ.set i (some (.ref p))) (ρ.set i (.o (.lst ds))) where
  len := by rw [List.length_set, List.length_set]; exact r.len
  z := fun j e hj => by
    rw [List.getElem?_set] at hj ⊢
    by_cases hij : i = j
    · subst hij
      rw [if_pos rfl] at hj
      split at hj <;> cases hj
    · rw [if_neg hij] at hj ⊢
      exact r.z j e hj
  o := fun j e hj => by
    rw [List.getElem?_set] at hj ⊢
    by_cases hij : i = j
    · subst hij
      rw [if_pos rfl] at hj ⊢
      by_cases hl : i < ρ.length
      · rw [if_pos hl] at hj
        rw [if_pos (by rw [r.len]; exact hl)]
        cases hj
        exact ⟨p, rfl, hp, vs, hx, rx⟩
      · rw [if_neg hl] at hj; cases hj
    · rw [if_neg hij] at hj ⊢
      exact r.o j e hj
  ne := fun j k a b q1 q2 hn h1 h2 h3 h4 => by
    rw [List.getElem?_set] at h1 h2 h3 h4
    by_cases fj : i = j
    · have fk : i ≠ k := fun z => hn (fj.symm.trans z)
      rw [if_neg fk] at h2 h4
      rw [if_pos fj] at h3
      have : q1 = p := by split at h3 <;> cases h3; rfl
      rw [this]
      exact Ne.symm (fr k _ q2 h2 h4)
    · rw [if_neg fj] at h1 h3
      by_cases fk : i = k
      · rw [if_pos fk] at h4
        have : q2 = p := by split at h4 <;> cases h4; rfl
        rw [this]
        exact fr j _ q1 h1 h3
      · rw [if_neg fk] at h2 h4
        exact r.ne j k a b q1 q2 hn h1 h2 h3 h4
theorem Ow.setO {i : Nat} {p : Addr} {d : D} (o : Ow H0 σ ρ) (hp : ∀ o, H0 p = some o → ∃ ps, o = .tbl ps) : Ow H0 (σ.set i (some (.ref p))) (ρ.set i (.o d)) := fun j e q h1 h2 => by
  rw [List.getElem?_set] at h1 h2
  by_cases hij : i = j
  · rw [if_pos hij] at h2
    have : q = p := by split at h2 <;> cases h2; rfl
    rw [this]; exact hp
  · rw [if_neg hij] at h1 h2
    exact o j e q h1 h2
/-- an own list made at p, bound to slot i -/
theorem Sg.own {F1 H1 : Hp} {i : Nat} {p : Addr} {vs : List V} {ds : List D} (g : Sg K T F0 H0 F H σ ρ) (n : Nx T F H F1 H1) (hp : F1 p = none) (hx : H1 p = some (.lst vs)) (rx : RpAll K F1 vs ds) (fr : ∀ o, H p = some o → ∃ ps, o = .tbl ps) :
    Sg K T F0 H0 F1 H1 (σ.set i (some (.ref p))) (ρ.set i (.o (.lst ds))) := by
  have g1 := g.step n
  refine ⟨⟨g1.at_.z, g1.at_.t, g1.at_.r.setO hp hx rx fun j d q h1 h2 e => ?_⟩, g1.nx, g1.ow.setO fun o ho => ?_⟩
  · obtain ⟨q', k1, k2, k3⟩ := g.at_.r.o j d h1
    rw [h2] at k1
    cases k1
    obtain ⟨o, k4, k5⟩ := k3.solid
    rw [e] at k4
    obtain ⟨ps, k6⟩ := fr o k4
    exact k5 ps k6
  · by_cases q : ∃ ps, o = .tbl ps
    · exact q
    · exact fr o (g.nx.h p o ho fun ps z => q ⟨ps, z⟩)
end
section
variable {X : Cx} {T : List (Addr × Str)} {W : WX} {F0 H0 : Hp}
theorem back_tbl {H H2 : Hp} {p : Addr} (n : ExtN H H2) (fr : ∀ o, H2 p = some o → ∃ ps, o = .tbl ps) : ∀ o, H p = some o → ∃ ps, o = .tbl ps := fun o ho => by
  by_cases q : ∃ ps, o = .tbl ps
  · exact q
  · exact fr o (n p o ho fun ps z => q ⟨ps, z⟩)
theorem aftO.bind {K : PySem.W.Frag} {σ : L2.St} {F H : Hp} {α β : Type} {R : Hp → α → β → Prop} {Q : V → Hp → Prop} {r : Res β} {k : β → Res D} (h : aftO K T W σ F H Q (r.bind k)) :
    aft R K T W σ F H (fun a H1 => ∃ b F1, r = .ok b ∧ Nx T F H F1 H1 ∧ R F1 a b ∧ aftO K T W σ F1 H1 Q (k b)) r := by
  cases r with
  | ok b =>
    refine fun a F2 H2 n ra => ⟨b, F2, rfl, n, ra, ?_⟩
    have h : aftO K T W σ F H Q (k b) := h
    cases e : k b with
    | ok d =>
      rw [e] at h
      cases d with
      | lst ds => exact fun p vs F' H' n2 hp hx rx fr => h p vs F' H' (n.trans n2) hp hx rx (back_tbl n.h fr)
      | _ => exact h.elim
    | ex m => rw [e] at h; exact fun F' H' n2 => h F' H' (n.trans n2)
    | bad => rw [e] at h; exact h.elim
  | ex m => exact h
  | bad => exact h
/-! ### appended, stored, read -/
def ownR (i : Nat) (ρ : Rho) : Res (List D) := match ρ[i]? with
  | some (.o (.lst ds)) => .ok ds
  | _ => .bad
def sapp (i : Nat) (f : Rho → Res D) : Rho → SR := fun ρ => bindS (ownR i ρ) ρ fun ds => bindS (f ρ) ρ fun d => if ds.length < sizeLine then .nx (ρ.set i (.o (.lst (ds ++ [d])))) else .bad
theorem RpAll.set {K : PySem.W.Frag} {F : Hp} : ∀ {vs : List V} {ds : List D} (n : Nat) {v : V} {d : D}, RpAll K F vs ds → Rp K F v d → RpAll K F (vs.set n v) (ds.set n d)
  | _, _, _, _, _, .nil, _ => .nil
  | _, _, 0, _, _, .cons _ t, r => .cons r t
  | _, _, n + 1, _, _, .cons h t, r => .cons h (RpAll.set n t r)
def sput (i : Nat) (fk fe : Rho → Res D) : Rho → SR := fun ρ => bindS (fe ρ) ρ fun d => bindS (ownR i ρ) ρ fun ds => bindS (fk ρ) ρ fun k => match k with
  | .int j => (match ixN ds.length j with
    | some m => .nx (ρ.set i (.o (.lst (ds.set m d))))
    | none => .bad)
  | _ => .bad
def ixO (i : Nat) (fk : Rho → Res D) : Rho → Res D := fun ρ => (ownR i ρ).bind fun ds => (fk ρ).bind fun k => match k with
  | .int j => ofO (atI ds j)
  | _ => .bad
end
end DN
/-! comprehensions with any target; lists made so are own or frozen -/
namespace DN
open PySem PySem.Spec PyProof.Rows L2
open LamX (Tabs ExtN)

theorem wipe_get (σ : L2.St) : ∀ (vs : List Nat) (i : Nat), (wipe σ vs)[i]? = if i ∈ vs then (if i < σ.length then some none else none) else σ[i]?
  | [], i => by simp [wipe]
  | v :: vs, i => by
    unfold wipe
    rw [List.getElem?_set, wipe_get σ vs i, wipe_length]
    by_cases h : v = i
    · subst h; simp
    · have : i ≠ v := fun z => h z.symm
      simp [h, this]
theorem wipe_wipe (σ : L2.St) (vs : List Nat) : wipe (wipe σ vs) vs = wipe σ vs := by
  apply List.ext_getElem?
  intro i
  rw [wipe_get, wipe_get, wipe_length]
  split <;> simp_all
theorem wipe_set {σ : L2.St} {vs : List Nat} {i : Nat} {x : Option V} (h : i ∈ vs) : wipe (σ.set i x) vs = wipe σ vs := by
  apply List.ext_getElem?
  intro j
  rw [wipe_get, wipe_get, List.length_set]
  split
  · rfl
  · rename_i hj
    rw [List.getElem?_set, if_neg (fun z : i = j => hj (z ▸ h))]
theorem At.wipe {K : PySem.W.Frag} {T : List (Addr × Str)} {F H : Hp} {σ : L2.St} {ρ : Rho} (a : At K T F H σ ρ) : ∀ vs : List Nat, At K T F H (L2.wipe σ vs) (wipeR ρ vs)
  | [] => a
  | v :: vs => ⟨a.z, a.t, (At.wipe a vs).r.wipe1⟩
/-! targets that touch the slots vs alone -/
def tGw (K : PySem.W.Frag) (T : List (Addr × Str)) (vs : List Nat) (g : Tg) : TG := fun v σ H Q => ∃ ρ F d ρ', At K T F H σ ρ ∧ Rp K F v d ∧ g ρ d = some ρ' ∧ ∀ σ', At K T F H σ' ρ' → wipe σ' vs = wipe σ vs → Q σ' H
def tGws (K : PySem.W.Frag) (T : List (Addr × Str)) (vs : List Nat) (g : Tgs) : TGs := fun us σ H Q => ∃ ρ F ds ρ', At K T F H σ ρ ∧ RpAll K F us ds ∧ g ρ ds = some ρ' ∧ ∀ σ', At K T F H σ' ρ' → wipe σ' vs = wipe σ vs → Q σ' H
section
variable {X : Cx} {T : List (Addr × Str)} {W : WX} {F0 H0 : Hp} {vs : List Nat}
theorem w_name {i : Nat} {e : Expr} (h : PG X e (gName i)) (hi : i ∈ vs := by decide) : PG X e (tGw X.K T vs (gn i)) := h.to fun v σ H Q ⟨ρ, F, d, ρ', a, r, hg, q⟩ => by
  cases hg
  exact q _ ⟨a.z, a.t, a.r.set r⟩ (wipe_set hi)
theorem ws_nil : PGs X [] (tGws X.K T vs gsn) := pgs_nil.to fun v σ H Q ⟨ρ, F, d, ρ', a, r, hg, q⟩ => by
  cases d with
  | nil =>
    cases r
    cases hg
    exact ⟨rfl, q σ a rfl⟩
  | cons _ _ => cases hg
theorem ws_cons {e : Expr} {es : List Expr} {g : Tg} {h : Tgs} (h1 : PG X e (tGw X.K T vs g)) (h2 : PGs X es (tGws X.K T vs h)) (hs : (assignEach (e :: es) X.env).map (·.2) = assign e X.env :: (assignEach es X.env).map (·.2) := by rfl) : PGs X (e :: es) (tGws X.K T vs (gsc g h)) :=
  (pgs_cons h1 h2 hs).to fun v σ H Q ⟨ρ, F, d, ρ', a, r, hg, q⟩ => by
    cases d with
    | nil => cases hg
    | cons d ds =>
      cases r with
      | cons r1 r2 =>
        have hg : (g ρ d).bind (fun ρ' => h ρ' ds) = some ρ' := hg
        cases e1 : g ρ d with
        | none => rw [e1] at hg; cases hg
        | some ρ1 =>
          rw [e1] at hg
          have hg : h ρ1 ds = some ρ' := hg
          refine ⟨_, _, rfl, ρ, F, d, ρ1, a, r1, e1, fun σ1 a1 o1 => ?_⟩
          exact ⟨ρ1, F, ds, ρ', a1, r2, hg, fun σ2 a2 o2 => q σ2 a2 (o2.trans o1)⟩
theorem w_tup {es : List Expr} {k : Nat} {pos : Pos} {h : Tgs} {n : Nat} (hc : X.calm = true) (h1 : PGs X es (tGws X.K T vs h)) (hn : (assignEach es X.env).length = n := by rfl) (hst : (assignEach es X.env).findIdx? (·.1) = none := by rfl) : PG X (.Tuple es k pos) (tGw X.K T vs (gt n h)) :=
  (PG.or (pg_tup hc h1 hn hst) (pg_unl hc h1 hn hst)).to fun v σ H Q ⟨ρ, F, d, ρ', a, r, hg, q⟩ => by
    cases r with
    | @tup ad xs ds h1 r1 =>
      have hg : (if ds.length = n then h ρ ds else none) = some ρ' := hg
      split at hg
      · rename_i hl
        exact .inl ⟨ad, xs, rfl, a.z.sub.st h1, by rw [r1.length]; exact hl, ρ, F, ds, ρ', a, r1, hg, q⟩
      · cases hg
    | @lst ad xs ds h1 r1 =>
      have hg : (if ds.length = n then h ρ ds else none) = some ρ' := hg
      split at hg
      · rename_i hl
        exact .inr ⟨ad, xs, rfl, SqL.of (a.z.sub _ _ h1), by rw [r1.length]; exact hl, ρ, F, ds, ρ', a, r1, hg, q⟩
      · cases hg
    | _ => cases hg
end
def lcG (f : Rho → Res (List D)) (vs : List Nat) (g : Tg) (t : Rho → Res Bool) (e : Rho → Res D) : Rho → Res D := fun ρ => (f ρ).bind fun ds => if ds.length < sizeLine then (compD g t e (wipeR ρ vs) ds).bind fun ys => .ok (.lst ys) else .bad
theorem comp_noex {g : Tg} {t : Rho → Res Bool} {e : Rho → Res D} {ρ : Rho} {m : Str} : ∀ ds : List D, compD g t e ρ ds ≠ .ex m
  | [] => fun z => by cases z
  | d :: ds => fun z => by
    unfold compD at z
    split at z
    · cases z
    · split at z
      · split at z
        · split at z
          · cases e2 : compD g t e ρ ds with
            | ok ys => rw [e2] at z; cases z
            | ex m' => exact comp_noex ds e2
            | bad => rw [e2] at z; cases z
          · cases z
        · exact comp_noex ds z
      · cases z
section
variable {X : Cx} {T : List (Addr × Str)} {W : WX} {F0 H0 : Hp}
theorem lcO_to {K : PySem.W.Frag} {f : Rho → Res (List D)} {vs : List Nat} {g : Tg} {t : Rho → Res Bool} {e : Rho → Res D} {σ : L2.St} {H : Hp} {Q : VK} (h : tO K T W (lcG f vs g t e) σ H Q) :
    tLc (tI K T W f) (tGw K T vs g) (tT K T W0 t) (tE K T W0 e) vs σ H Q := by
  obtain ⟨ρ, F, a, h⟩ := h
  refine ⟨ρ, F, a, (aftO.bind (R := fun F J ds => Walks K T F J ds) h).imp fun d _ J F1 H1 _ _ q => ?_⟩
  obtain ⟨ds, F2, _, n, wk, q⟩ := q
  have q : aftO K T W σ F2 H1 Q (if ds.length < sizeLine then (compD g t e (wipeR ρ vs) ds).bind fun ys => .ok (.lst ys) else .bad) := q
  split at q
  · rename_i hlen
    cases hc : compD g t e (wipeR ρ vs) ds with
    | bad => rw [hc] at q; exact q.elim
    | ex m => exact (comp_noex ds hc).elim
    | ok ys =>
      rw [hc] at q
      have q : ∀ p us F' H', Nx T F2 H1 F' H' → F' p = none → H' p = some (.lst us) → RpAll K F' us ys → (∀ o, H1 p = some o → ∃ ps, o = .tbl ps) → Q (.ref p) H' := q
      have a2 := a.nx n
      intro p hp
      refine ⟨fun k m H => m = ds.length - k ∧ k ≤ ds.length ∧ ∃ F' acc dacc rest, Nx T F2 H1 F' H ∧ F' p = none ∧ H p = some (.lst acc) ∧ RpAll K F' acc dacc ∧ acc.length ≤ k ∧ compD g t e (wipeR ρ vs) (ds.drop k) = .ok rest ∧ dacc ++ rest = ys,
        ⟨ds.length, by omega, by omega, F2, [], [], ys, Nx.lay n.z hp, frn n.z hp, upd_same, .nil, by simp, hc, rfl⟩, ?_⟩
      rintro k m H ⟨rfl, hk, F', acc, dacc, rest, nx, hFp, hHp, ra, la, hr, hy⟩
      obtain ⟨wg, ws⟩ := wk k F' H nx.f nx.z
      by_cases hlt : k < ds.length
      · obtain ⟨go, yl⟩ := wg _ (List.getElem?_eq_getElem hlt)
        rw [List.drop_eq_getElem_cons hlt] at hr
        unfold compD at hr
        refine .inr ⟨go, fun H => ∃ F' acc dacc rest, Nx T F2 H1 F' H ∧ F' p = none ∧ H p = some (.lst acc) ∧ RpAll K F' acc dacc ∧ acc.length ≤ k + 1 ∧ compD g t e (wipeR ρ vs) (ds.drop (k + 1)) = .ok rest ∧ dacc ++ rest = ys, fun H' w => ⟨ds.length - (k + 1), by omega, rfl, by omega, w⟩, fun x H' y => ?_⟩
        obtain ⟨F3, n3, rx⟩ := yl x H' y
        have hp3 : H' p = some (.lst acc) := n3.keep hHp ntL
        have hf3 : F3 p = none := n3.out hHp ntL hFp
        have a3 : At K T F3 H' (wipe σ vs) (wipeR ρ vs) := (a2.nx (nx.trans n3)).wipe vs
        cases hg : g (wipeR ρ vs) ds[k] with
        | none => rw [hg] at hr; cases hr
        | some ρ1 =>
          rw [hg] at hr
          refine ⟨_, F3, ds[k], ρ1, a3, rx, hg, fun σ2 a4 hw => ⟨by rw [hw, wipe_wipe], ?_⟩⟩
          have hr : (match t ρ1 with
            | .ok b => if b = true then (match e ρ1 with
              | .ok y => (compD g t e (wipeR ρ vs) (ds.drop (k + 1))).bind fun ys => .ok (y :: ys)
              | _ => .bad) else compD g t e (wipeR ρ vs) (ds.drop (k + 1))
            | _ => .bad) = .ok rest := hr
          cases ht : t ρ1 with
          | bad => rw [ht] at hr; cases hr
          | ex m => rw [ht] at hr; cases hr
          | ok b =>
            rw [ht] at hr
            refine ⟨_, F3, a4, no_ex a4.z ht fun b' F4 H4 n4 rb => ?_⟩
            obtain rfl : b' = b := rb
            cases b' with
            | false =>
              show ∃ F' acc dacc rest, _
              have hr : compD g t e (wipeR ρ vs) (ds.drop (k + 1)) = .ok rest := hr
              exact ⟨F4, acc, dacc, rest, (nx.trans n3).trans n4, n4.out hp3 ntL hf3, n4.keep hp3 ntL, ra.mono (n3.trans n4).f, by omega, hr, hy⟩
            | true =>
              have hr : (match e ρ1 with
                | .ok y => (compD g t e (wipeR ρ vs) (ds.drop (k + 1))).bind fun ys => .ok (y :: ys)
                | _ => .bad) = .ok rest := hr
              cases he : e ρ1 with
              | bad => rw [he] at hr; cases hr
              | ex m => rw [he] at hr; cases hr
              | ok y =>
                rw [he] at hr
                have hr : (compD g t e (wipeR ρ vs) (ds.drop (k + 1))).bind (fun ys => .ok (y :: ys)) = .ok rest := hr
                cases hr2 : compD g t e (wipeR ρ vs) (ds.drop (k + 1)) with
                | bad => rw [hr2] at hr; cases hr
                | ex m => rw [hr2] at hr; cases hr
                | ok rest' =>
                  rw [hr2] at hr
                  cases hr
                  show tE K T W0 e _ H4 _
                  refine ⟨_, F4, a4.nx n4, no_ex n4.z he fun v F5 H5 n5 rv => ?_⟩
                  have hp5 : H5 p = some (.lst acc) := (n4.trans n5).keep hp3 ntL
                  have hf5 : F5 p = none := (n4.trans n5).out hp3 ntL hf3
                  have n6 := (nx.trans n3).trans (n4.trans n5)
                  refine ⟨acc, hp5, by omega, F5, acc ++ [v], dacc ++ [y], rest', ⟨n6.f, ⟨fun b o eb => ?_, n6.z.nt⟩, fun b o eb no => ?_, n6.new, fun tb => tabs_upd (n6.tab tb) hp5⟩, hf5, upd_same, ?_, by rw [List.length_append]; simp; omega, rfl, by rw [List.append_assoc]; exact hy⟩
                  · rw [upd_ne fun z => by rw [z, hf5] at eb; cases eb]
                    exact n6.z.sub _ _ eb
                  · rw [upd_ne fun z => by rw [z, hp] at eb; cases eb]
                    exact n6.h _ _ eb no
                  · exact (ra.mono ((n3.trans n4).trans n5).f).append (.cons rv .nil)
      · have ek : k = ds.length := by omega
        subst ek
        refine .inl ⟨ws (Nat.le_refl _), ?_⟩
        rw [List.drop_length] at hr
        cases hr
        rw [List.append_nil] at hy
        subst hy
        exact q p acc F' H nx hFp hHp ra fun o ho => by rw [hp] at ho; cases ho
  · exact q.elim
/-- an own list, frozen at once -/
theorem frzO {K : PySem.W.Frag} {σ : L2.St} {F H : Hp} {Q : V → Hp → Prop} {ds : List D} (q : aft (Rp K) K T W σ F H Q (.ok (.lst ds))) : aftO K T W σ F H Q (.ok (.lst ds)) := fun p us F' H' n hp hx rx fr => by
  refine q (.ref p) (upd F' p (.lst us)) H' ⟨fun b o eb => ?_, ⟨fun b o eb => ?_, fun b ps eb => ?_⟩, n.h, fun b o eb => ?_, n.tab⟩ (.lst upd_same (rx.mono fun b o eb => ?_))
  · rw [upd_ne fun z => by rw [z] at eb; rw [n.f _ _ eb] at hp; cases hp]
    exact n.f _ _ eb
  · by_cases hb : b = p
    · subst hb; rw [upd_same] at eb; rw [← eb]; exact hx
    · rw [upd_ne hb] at eb; exact n.z.sub _ _ eb
  · by_cases hb : b = p
    · subst hb; rw [upd_same] at eb; cases eb
    · rw [upd_ne hb] at eb; exact n.z.nt _ _ eb
  · by_cases hb : b = p
    · subst hb; exact .inr fun o e => .inl (fr o e)
    · rw [upd_ne hb] at eb; exact n.new _ _ eb
  · rw [upd_ne fun z => by rw [z, hp] at eb; cases eb]; exact eb
theorem lcG_to {K : PySem.W.Frag} {f : Rho → Res (List D)} {vs : List Nat} {g : Tg} {t : Rho → Res Bool} {e : Rho → Res D} {σ : L2.St} {H : Hp} {Q : VK} (h : tE K T W (lcG f vs g t e) σ H Q) :
    tLc (tI K T W f) (tGw K T vs g) (tT K T W0 t) (tE K T W0 e) vs σ H Q := by
  obtain ⟨ρ, F, a, h⟩ := h
  refine lcO_to ⟨ρ, F, a, ?_⟩
  unfold lcG at h ⊢
  cases hf : f ρ with
  | bad => rw [hf] at h; exact h.elim
  | ex m => rw [hf] at h; exact h
  | ok ds =>
    rw [hf] at h
    have h : aft (Rp K) K T W σ F H Q (if ds.length < sizeLine then (compD g t e (wipeR ρ vs) ds).bind fun ys => .ok (.lst ys) else .bad) := h
    show aftO K T W σ F H Q (if ds.length < sizeLine then (compD g t e (wipeR ρ vs) ds).bind fun ys => .ok (.lst ys) else .bad)
    split
    · rename_i hl
      rw [if_pos hl] at h
      cases hc : compD g t e (wipeR ρ vs) ds with
      | bad => rw [hc] at h; exact h.elim
      | ex m => exact (comp_noex ds hc).elim
      | ok ys => rw [hc] at h; exact frzO h
    · rename_i hl
      rw [if_neg hl] at h; exact h.elim
theorem e_lcG {elt tg iter : Expr} {ifs : List Expr} {scope : Scope} {own : List (Str × Nat)} {pos : Pos} {f : Rho → Res (List D)} {g : Tg} {t : Rho → Res Bool} {e : Rho → Res D} (hc : X.calm = true) (hN : X.N.Nodup) (hi : DI X T W tg iter f) (ok : BlkOk X.N X.env.scope scope own)
    (hg : ∀ (s : Shared) (H : Hp) (C : Addr) (cl : List (Str × Addr)) (fp : List Addr), PG (X.blk s H scope (compEnvC scope cl C X.env) fp) tg (tGw X.K T (own.map (·.2)) g))
    (ht : ∀ (s : Shared) (H : Hp) (C : Addr) (cl : List (Str × Addr)) (fp : List Addr), PTs (X.blk s H scope (compEnvC scope cl C X.env) fp) ifs (tT X.K T W0 t))
    (he : ∀ (s : Shared) (H : Hp) (C : Addr) (cl : List (Str × Addr)) (fp : List Addr), DE (X.blk s H scope (compEnvC scope cl C X.env) fp) T W0 elt e) (hs : ∀ x, foldedSetIterable iter X.env x = pure x := by intro _; rfl) :
    DE X T W (.ListComp elt [⟨tg, iter, ifs, 0⟩] scope pos) (lcG f (own.map (·.2)) g t e) :=
  (pe_lc (own := own) hc hN hi ok hg ht he hs).to fun _ _ _ h => lcG_to h
section
variable {j : Nat} {y : Str} {py : Pos} {elt tg iter : Expr} {ifs : List Expr} {scope : Scope} {own : List (Str × Nat)} {pos spos : Pos} {f : Rho → Res (List D)} {g : Tg} {t : Rho → Res Bool} {e : Rho → Res D}
end
end
end DN
/-! min, max and index of a list of ints; evaluation of own lists -/
namespace DN
open PySem PySem.Spec PyProof.Rows L2
open LamX (Tabs ExtN)

def intsD : List D → Option (List Int)
  | [] => some []
  | .int i :: r => (intsD r).map (i :: ·)
  | _ => none
theorem rp_ints {K : PySem.W.Frag} {F : Hp} : ∀ {vs : List V} {ds : List D} {ns : List Int}, RpAll K F vs ds → intsD ds = some ns → vs = ns.map V.int
  | _, _, _, .nil, e => by cases e; rfl
  | _, _, _, .cons h t, e => by
    cases h with
    | int i =>
      unfold intsD at e
      rename_i ds
      cases e2 : intsD ds with
      | none => rw [e2] at e; cases e
      | some ms =>
        rw [e2] at e
        cases e
        rw [rp_ints t e2]; rfl
    | _ => cases e
section
variable {X : Cx} {T : List (Addr × Str)} {W : WX} {F0 H0 : Hp}
end
/-! ### evaluation -/
section
variable {ρ : Rho}
def ownRR (r : Res D) (ρ : Rho) (i : Nat) : SR := bindS r ρ fun d => match d with
  | .lst ds => .nx (ρ.set i (.o (.lst ds)))
  | _ => .bad
theorem sown_def {f : Rho → Res D} {i : Nat} : sown f i ρ = ownRR (f ρ) ρ i := rfl
theorem ownRR_ok {ds : List D} {i : Nat} : ownRR (.ok (.lst ds)) ρ i = .nx (ρ.set i (.o (.lst ds))) := rfl
theorem frz_lst {ds : List D} {r : Rho} : frz 0 (.o (.lst ds) :: r) = .z (.lst ds) :: r := rfl
theorem frz_z {d : D} {r : Rho} : frz 0 (.z d :: r) = .z d :: r := rfl
theorem frz_u {r : Rho} : frz 0 (.u :: r) = .u :: r := rfl
theorem frz_succ {i : Nat} {e : En} {r : Rho} : frz (i + 1) (e :: r) = e :: frz i r := by
  unfold frz
  rw [List.getElem?_cons_succ]
  cases r[i]? with
  | none => rfl
  | some en =>
    cases en with
    | u => rfl
    | z d => rfl
    | o d => cases d <;> rfl
theorem sfrz_def {i : Nat} {s : Rho → SR} : sfrz i s ρ = s (frz i ρ) := rfl
theorem bor_def {i : Nat} {f : Rho → Res D} : bor i f ρ = flatR (f (frz i ρ)) := rfl
theorem borQ_def {i : Nat} {f : Rho → Res Bool} : borQ i f ρ = f (frz i ρ) := rfl
theorem flat_i {i : Int} : flatR (.ok (.int i)) = .ok (.int i) := rfl
theorem flat_s {x : Str} : flatR (.ok (.str x)) = .ok (.str x) := rfl
theorem flat_b {b : Bool} : flatR (.ok (.bl b)) = .ok (.bl b) := rfl
theorem flat_n : flatR (.ok .non) = .ok .non := rfl
theorem own_zero {ds : List D} {r : Rho} : ownR 0 (.o (.lst ds) :: r) = .ok ds := rfl
theorem own_succ {i : Nat} {e : En} {r : Rho} : ownR (i + 1) (e :: r) = ownR i r := rfl
def appRR (ds : Res (List D)) (r : Res D) (ρ : Rho) (i : Nat) : SR := bindS ds ρ fun ds => bindS r ρ fun d => if ds.length < sizeLine then .nx (ρ.set i (.o (.lst (ds ++ [d])))) else .bad
theorem sapp_def {i : Nat} {f : Rho → Res D} : sapp i f ρ = appRR (ownR i ρ) (f ρ) ρ i := rfl
def putRR (v : Res D) (ds : Res (List D)) (k : Res D) (ρ : Rho) (i : Nat) : SR := bindS v ρ fun d => bindS ds ρ fun ds => bindS k ρ fun k => match k with
  | .int j => (match ixN ds.length j with
    | some m => .nx (ρ.set i (.o (.lst (ds.set m d))))
    | none => .bad)
  | _ => .bad
theorem sput_def {i : Nat} {f g : Rho → Res D} : sput i f g ρ = putRR (g ρ) (ownR i ρ) (f ρ) ρ i := rfl
def ixRR (ds : Res (List D)) (k : Res D) : Res D := ds.bind fun ds => k.bind fun k => match k with
  | .int j => ofO (atI ds j)
  | _ => .bad
theorem ixO_def {i : Nat} {f : Rho → Res D} : ixO i f ρ = ixRR (ownR i ρ) (f ρ) := rfl
end
end DN
/-! list(x) as an own list -/
namespace DN
open PySem PySem.Spec PyProof.Rows L2
open LamX (Tabs ExtN)
section
variable {X : Cx} {T : List (Addr × Str)} {W : WX}
end
end DN
/-! sorted of a list of texts -/
namespace DN
open PySem PySem.Spec PyProof.Rows L2
open LamX (Tabs ExtN)
section
variable {X : Cx} {T : List (Addr × Str)} {W : WX}
end
theorem bt_sorted : bootBuiltins "sorted" = some (.builtin "sorted") := by decide +kernel
end DN
/-! tuples of texts whose object is known: tuple(list), len, [], in, index, + -/
namespace DN
open PySem PySem.Spec PyProof.Rows L2
open LamX (Tabs ExtN)
section
variable {X : Cx} {T : List (Addr × Str)} {W : WX}
theorem ntF {o : Obj} {u : HO} : ∀ ps, HO.frz o u ≠ .tbl ps := fun ps z => by cases z
/-! t.index(x), t a tuple whose object is known: one argument, by the kit's wpAny_Call_method1_late -/
variable {o e : Expr} {to : TE} {t : TA} {apos cpos : Pos}
end
end DN
/-! str.replace: rules where a token is out -/
namespace DN
open PySem PySem.Spec PyProof.Rows L2
open LamX (Tabs ExtN)
section
variable {X : Cx} {T : List (Addr × Str)} {W : WX} {F0 H0 : Hp}
end
end DN
/-! zip of two lists, of two tuples -/
namespace DN
open PySem PySem.Spec PyProof.Rows L2
open LamX (Tabs ExtN)
open RZ (ItzT iZipA pi_zipA)
def prs : List D → List D → List D
  | a :: as, b :: bs => .tup [a, b] :: prs as bs
  | _, _ => []
def zipR : List D → Res (List D)
  | [.lst a, .lst b] => .ok (prs a b)
  | [.tup a, .tup b] => .ok (prs a b)
  | _ => .bad
def zipI (f : Rho → Res (List D)) : Rho → Res (List D) := fun ρ => (f ρ).bind zipR
theorem prs_get : ∀ {as bs : List D} {i : Nat} {d : D}, (prs as bs)[i]? = some d → ∃ a b, as[i]? = some a ∧ bs[i]? = some b ∧ d = .tup [a, b]
  | [], _, _, _, h => by simp [prs] at h
  | _ :: _, [], _, _, h => by simp [prs] at h
  | a :: as, b :: bs, 0, d, h => by
    have h : some (D.tup [a, b]) = some d := h
    cases h
    exact ⟨a, b, rfl, rfl, rfl⟩
  | a :: as, b :: bs, i + 1, d, h => by
    have h : (prs as bs)[i]? = some d := h
    exact prs_get (as := as) (bs := bs) h
theorem prs_len : ∀ (as bs : List D), (prs as bs).length = min as.length bs.length
  | [], _ => by simp [prs]
  | _ :: _, [] => by simp [prs]
  | a :: as, b :: bs => by
    show (prs as bs).length + 1 = min (as.length + 1) (bs.length + 1)
    rw [prs_len as bs]
    omega
section
variable {X : Cx} {T : List (Addr × Str)} {W : WX}
theorem walks_zip {K : PySem.W.Frag} {F : Hp} {a b : Addr} {xs ys : List V} {ds es : List D} (h1 : SqL K F a xs) (r1 : RpAll K F xs ds) (h2 : SqL K F b ys) (r2 : RpAll K F ys es) : Walks K T F (Itz K a b) (prs ds es) := fun i F' H sb z => by
  have l1 : SqL K H a xs := (sb.trans z.sub).sl h1
  have l2 : SqL K H b ys := (sb.trans z.sub).sl h2
  refine ⟨fun d hd => ?_, fun hle => ⟨xs, ys, l1, l2, ?_⟩⟩
  · obtain ⟨d1, d2, g1, g2, rfl⟩ := prs_get hd
    obtain ⟨v1, hv1, rv1⟩ := r1.get g1
    obtain ⟨v2, hv2, rv2⟩ := r2.get g2
    refine ⟨⟨xs, ys, v1, v2, l1, l2, hv1, hv2⟩, fun x H' y => ?_⟩
    obtain ⟨t, u1, u2, rfl, hn, rfl, y1, y2⟩ := y
    have e1 := y1 xs l1
    have e2 := y2 ys l2
    rw [hv1] at e1
    rw [hv2] at e2
    cases e1
    cases e2
    refine ⟨_, Nx.push z hn (fun ps q => by cases q), ?_⟩
    exact rp_tup z hn (.cons (rv1.mono sb) (.cons (rv2.mono sb) .nil))
  · rw [prs_len] at hle
    rw [r1.length, r2.length]
    omega
theorem walks_zipT {K : PySem.W.Frag} {F : Hp} {a b : Addr} {xs ys : List V} {ds es : List D} (h1 : SqT K F a xs) (r1 : RpAll K F xs ds) (h2 : SqT K F b ys) (r2 : RpAll K F ys es) : Walks K T F (ItzT K a b) (prs ds es) := fun i F' H sb z => by
  have l1 : SqT K H a xs := (sb.trans z.sub).st h1
  have l2 : SqT K H b ys := (sb.trans z.sub).st h2
  refine ⟨fun d hd => ?_, fun hle => ⟨xs, ys, l1, l2, ?_⟩⟩
  · obtain ⟨d1, d2, g1, g2, rfl⟩ := prs_get hd
    obtain ⟨v1, hv1, rv1⟩ := r1.get g1
    obtain ⟨v2, hv2, rv2⟩ := r2.get g2
    refine ⟨⟨xs, ys, v1, v2, l1, l2, hv1, hv2⟩, fun x H' y => ?_⟩
    obtain ⟨t, u1, u2, rfl, hn, rfl, y1, y2⟩ := y
    have e1 := y1 xs l1
    have e2 := y2 ys l2
    rw [hv1] at e1
    rw [hv2] at e2
    cases e1
    cases e2
    refine ⟨_, Nx.push z hn (fun ps q => by cases q), ?_⟩
    exact rp_tup z hn (.cons (rv1.mono sb) (.cons (rv2.mono sb) .nil))
  · rw [prs_len] at hle
    rw [r1.length, r2.length]
    omega
theorem zip_to {K : PySem.W.Frag} {f : Rho → Res (List D)} : ∀ σ H R, tI K T W (zipI f) σ H R → iZipA K (tA K T W f) σ H R := fun σ H R ⟨ρ, F, a, h⟩ => by
  refine ⟨ρ, F, a, (aft.bind (R := RpAll K) h).imp fun ds _ vs F1 H1 _ _ q => ?_⟩
  obtain ⟨ds', F2, _, n, rs, q⟩ := q
  unfold zipR at q
  split at q
  · obtain ⟨v1, v2, rfl, r1, r2⟩ := all2 rs
    cases r1 with
    | lst h1 s1 =>
      cases r2 with
      | lst h2 s2 =>
        refine ⟨_, _, _, _, rfl, .inl ⟨SqL.of (n.z.sub _ _ h1), SqL.of (n.z.sub _ _ h2), ?_⟩⟩
        exact q _ F2 H1 (Nx.refl n.z) (walks_zip (SqL.of h1) s1 (SqL.of h2) s2)
  · obtain ⟨v1, v2, rfl, r1, r2⟩ := all2 rs
    cases r1 with
    | tup h1 s1 =>
      cases r2 with
      | tup h2 s2 =>
        refine ⟨_, _, _, _, rfl, .inr ⟨n.z.sub.st h1, n.z.sub.st h2, ?_⟩⟩
        exact q _ F2 H1 (Nx.refl n.z) (walks_zipT h1 s1 h2 s2)
  · exact q.elim
theorem i_zip {e e2 : Expr} {p pos tpos : Pos} {elts : List Expr} {kk : Nat} {f : Rho → Res (List D)} (hg : Gl X "zip") (hm : X.mg "zip" = none) (ha : DA X T W [e, e2] f)
    (hs : starEach [e, e2] X.env = (false, eval e X.env) :: starEach [e2] X.env := by rfl) (hpl : (backTo pos (starEach [e2] X.env)).any (·.1) = false := by rfl) : DI X T W (.Tuple elts kk tpos) (.Call (.Name "zip" p) [e, e2] [] pos) (zipI f) :=
  (pi_zipA hg hm ha hs hpl).to zip_to
end
end DN
/-! x.replace(y, z, 1); statements behind which a token is out -/
namespace PySem
open Builtin Builtin.Str
section
variable {prog : Program} {w : World} {A : Around} {E : Value → Shared → Prop} {s : Shared} {x y z : Str} {t u v c : Tok} {Q : Value → Shared → Prop}
end
end PySem
namespace DN
open PySem PySem.Spec PyProof.Rows L2
open LamX (Tabs ExtN)
section
variable {X : Cx} {T : List (Addr × Str)} {W : WX} {F0 H0 : Hp}
end
end DN
/-! DN25: repr of nested tuples; a law whose body is read under the outermost call alone (no repr is under way there). -/
namespace DN
open PySem PySem.Spec PyProof.Rows L2
open LamX (Tabs ExtN TabB)

section
variable {X : Cx} {T : List (Addr × Str)}
end
/-! ### a law's def, read under the outermost call -/
/-! the heap at the law's entry: the script (if the head doesn't hold it) and the empty tables are tracked -/
section
variable {K : PySem.W.Frag} {cs : List (Addr × Addr)} {a b : Addr} {o : Obj} {ns : List Int} {h : Heap} {u : HO}
end
section
variable {l : PySem.W.OpenLaw} {w : World} {K : PySem.W.Frag} {n : Nat} {x : Str} {mg mb : Str → Option Value} {fa a : Addr} {fd : FuncData} {cs : List (Addr × Addr)} {sp : Sp} {s s' : Shared} {vs : List Value} {ns : List Int} {o : Obj}
end
end DN
/-! dicts of the frame's own whose keys are nested tuples -/
namespace DN
open PySem PySem.Spec PyProof.Rows L2
open LamX (Tabs ExtN)

section
variable {X : Cx} {pins : List (Addr × Obj)} {σ : L2.St} {F H : Hp} {s : Shared}
end
/-! ### looked up, stored -/
section
variable {K : PySem.W.Frag} {F : Hp} {es : List (NestedKey × Addr × V)} {ks vs : List D} {xs : List (NestedKey × Addr × Value)} {n : NestedKey}
theorem put_new {v : V} {d k : D} {b : Addr} (h1 : k.key = some n) (h2 : n.depth ≤ 8) (h3 : Rp K F (.ref b) k) (rv : Rp K F v d) (r : DicR K F es ks vs) : DicR K F (es ++ [(n, b, v)]) (ks ++ [k]) (vs ++ [d]) := by
  induction r with
  | nil => exact .cons h1 h2 h3 rv .nil
  | cons a1 a2 a3 a4 _ ih => exact .cons a1 a2 a3 a4 ih
end
/-! ### the operations, by the heap -/
section
variable {X : Cx}
theorem DicR.length {K : PySem.W.Frag} {F : Hp} {es : List (NestedKey × Addr × V)} {ks vs : List D} (r : DicR K F es ks vs) : es.length = ks.length := by
  induction r with
  | nil => rfl
  | cons _ _ _ _ _ ih => rw [List.length_cons, List.length_cons, ih]
end
/-! ### no dict is a code object -/
theorem tabs_updG {T : List (Addr × Str)} {H : Hp} {p : Addr} {o o' : HO} (h : Tabs T H) (e : H p = some o) (h1 : ∀ ps, o ≠ .tbl ps) (h2 : ∀ q, o ≠ LamX.CodeO p q) : Tabs T (upd H p o') := fun q hq => by
  obtain ⟨ps, k1, k2, k3⟩ := h q hq
  refine ⟨ps, ?_, k2, fun pos cv hc => ?_⟩
  · rw [upd_ne fun z => by rw [z, e] at k1; exact h1 ps (Option.some.inj k1)]; exact k1
  · obtain ⟨c, e1, e2⟩ := k3 pos cv hc
    refine ⟨c, e1, ?_⟩
    rw [upd_ne fun z => by subst z; rw [e] at e2; exact h2 _ (Option.some.inj e2)]; exact e2
theorem OwnAt.updN {K : PySem.W.Frag} {F H : Hp} {p q : Addr} {o : HO} (hne : q ≠ p) : ∀ {d : D}, OwnAt K F H q d → OwnAt K F (upd H p o) q d
  | .lst ds, ⟨zs, k1, k2⟩ => ⟨zs, by rw [upd_ne hne]; exact k1, k2⟩
  | .dK _, h => by show upd H p o q = _; rw [upd_ne hne]; exact h
  | .dT _, h => by show upd H p o q = _; rw [upd_ne hne]; exact h
  | .dic _ _ _ _, ⟨es, k1, k2⟩ => ⟨es, by rw [upd_ne hne]; exact k1, k2⟩
  | .ins _ _ _, ⟨dx, ws, k1, k2⟩ => ⟨dx, ws, by rw [upd_ne hne]; exact k1, k2⟩
  | .non, h => h.elim
  | .bl _, h => h.elim
  | .int _, h => h.elim
  | .str _, h => h.elim
  | .tup _, h => h.elim
  | .fn _, h => h.elim
  | .ty _, h => h.elim
  | .arr _, h => h.elim
  | .pro _, h => h.elim
  | .adr _, h => h.elim
  | .tab _ _ _, h => h.elim
section
variable {K : PySem.W.Frag} {T : List (Addr × Str)} {W : WX} {F0 H0 F H : Hp} {σ : L2.St} {ρ : Rho}
theorem Rl.setG {i : Nat} {p : Addr} {d : D} (r : Rl K F H σ ρ) (hp : F p = none) (hx : OwnAt K F H p d) (fr : ∀ (j : Nat) (d : D) (q : Addr), ρ[j]? = some (En.o d) → σ[j]? = some (some (V.ref q)) → q ≠ p) :
    Rl K F H (σ.set i (some (.ref p))) (ρ.set i (.o d)) where
  len := by rw [List.length_set, List.length_set]; exact r.len
  z := fun j e hj => by
    rw [List.getElem?_set] at hj ⊢
    by_cases hij : i = j
    · subst hij
      rw [if_pos rfl] at hj
      split at hj <;> cases hj
    · rw [if_neg hij] at hj ⊢
      exact r.z j e hj
  o := fun j e hj => by
    rw [List.getElem?_set] at hj ⊢
    by_cases hij : i = j
    · subst hij
      rw [if_pos rfl] at hj ⊢
      by_cases hl : i < ρ.length
      · rw [if_pos hl] at hj
        rw [if_pos (by rw [r.len]; exact hl)]
        cases hj
        exact ⟨p, rfl, hp, hx⟩
      · rw [if_neg hl] at hj; cases hj
    · rw [if_neg hij] at hj ⊢
      exact r.o j e hj
  ne := fun j k a b q1 q2 hn h1 h2 h3 h4 => by
    rw [List.getElem?_set] at h1 h2 h3 h4
    by_cases fj : i = j
    · have fk : i ≠ k := fun z => hn (fj.symm.trans z)
      rw [if_neg fk] at h2 h4
      rw [if_pos fj] at h3
      have : q1 = p := by split at h3 <;> cases h3; rfl
      rw [this]
      exact Ne.symm (fr k _ q2 h2 h4)
    · rw [if_neg fj] at h1 h3
      by_cases fk : i = k
      · rw [if_pos fk] at h4
        have : q2 = p := by split at h4 <;> cases h4; rfl
        rw [this]
        exact fr j _ q1 h1 h3
      · rw [if_neg fk] at h2 h4
        exact r.ne j k a b q1 q2 hn h1 h2 h3 h4
/-- an own object made at p, bound to slot i -/
theorem Sg.ownG {F1 H1 : Hp} {i : Nat} {p : Addr} {d : D} (g : Sg K T F0 H0 F H σ ρ) (n : Nx T F H F1 H1) (hp : F1 p = none) (hx : OwnAt K F1 H1 p d) (fr : ∀ o, H p = some o → ∃ ps, o = .tbl ps) :
    Sg K T F0 H0 F1 H1 (σ.set i (some (.ref p))) (ρ.set i (.o d)) := by
  have g1 := g.step n
  refine ⟨⟨g1.at_.z, g1.at_.t, g1.at_.r.setG hp hx fun j d q h1 h2 e => ?_⟩, g1.nx, g1.ow.setO fun o ho => ?_⟩
  · obtain ⟨q', k1, k2, k3⟩ := g.at_.r.o j d h1
    rw [h2] at k1
    cases k1
    obtain ⟨o, k4, k5⟩ := k3.solid
    rw [e] at k4
    obtain ⟨ps, k6⟩ := fr o k4
    exact k5 ps k6
  · by_cases q : ∃ ps, o = .tbl ps
    · exact q
    · exact fr o (g.nx.h p o ho fun ps z => q ⟨ps, z⟩)
/-- the own object at slot i is changed -/
theorem Sg.putG {i : Nat} {p : Addr} {d d' : D} {o o' : HO} (g : Sg K T F0 H0 F H σ ρ) (hi : ρ[i]? = some (.o d)) (hs : σ[i]? = some (some (.ref p))) (hx : H p = some o) (h1 : ∀ ps, o ≠ .tbl ps) (h2 : ∀ q, o ≠ LamX.CodeO p q) (ry : OwnAt K F (upd H p o') p d') :
    Sg K T F0 H0 F (upd H p o') σ (ρ.set i (.o d')) := by
  have il : i < ρ.length := (List.getElem?_eq_some_iff.mp hi).1
  have hp : F p = none := by
    obtain ⟨q, h1, h2, h3⟩ := g.at_.r.o i d hi
    rw [hs] at h1; cases h1; exact h2
  have z1 : Fz F (upd H p o') := ⟨fun b o eb => by
    rw [upd_ne fun z => by rw [z, hp] at eb; cases eb]; exact g.at_.z.sub _ _ eb, g.at_.z.nt⟩
  refine ⟨⟨z1, tabs_updG g.at_.t hx h1 h2, ?_⟩, ⟨g.nx.f, z1, fun b o eb no => ?_, g.nx.new, fun t => tabs_updG (g.nx.tab t) hx h1 h2⟩, fun j e q h1 h2 => ?_⟩
  · refine ⟨by rw [List.length_set]; exact g.at_.r.len, fun j e hj => ?_, fun j e hj => ?_, fun j k a b q1 q2 hn h1 h2 h3 h4 => ?_⟩
    · rw [List.getElem?_set] at hj
      by_cases hij : i = j
      · rw [if_pos hij] at hj
        split at hj <;> cases hj
      · rw [if_neg hij] at hj
        exact g.at_.r.z j e hj
    · rw [List.getElem?_set] at hj
      by_cases hij : i = j
      · subst hij
        rw [if_pos rfl, if_pos il] at hj
        cases hj
        exact ⟨p, hs, hp, ry⟩
      · rw [if_neg hij] at hj
        obtain ⟨q, h1, h2, h3⟩ := g.at_.r.o j e hj
        have hne : p ≠ q := g.at_.r.ne i j _ _ p q hij hi hj hs h1
        exact ⟨q, h1, h2, h3.updN (Ne.symm hne)⟩
    · have o1 : ∀ j e, (ρ.set i (.o d'))[j]? = some (En.o e) → ∃ e', ρ[j]? = some (En.o e') := fun j e h => by
        rw [List.getElem?_set] at h
        by_cases hij : i = j
        · subst hij; exact ⟨d, hi⟩
        · rw [if_neg hij] at h; exact ⟨e, h⟩
      obtain ⟨a', h1⟩ := o1 j a h1
      obtain ⟨b', h2⟩ := o1 k b h2
      exact g.at_.r.ne j k a' b' q1 q2 hn h1 h2 h3 h4
  · rw [upd_ne fun z => by
      subst z
      obtain ⟨ps, k⟩ := g.ow i d b hi hs o eb
      exact no ps k]
    exact g.nx.h _ _ eb no
  · rw [List.getElem?_set] at h1
    by_cases hij : i = j
    · subst hij
      exact g.ow i d q hi h2
    · rw [if_neg hij] at h1
      exact g.ow j e q h1 h2
end
/-! ### by data -/
section
variable {X : Cx} {T : List (Addr × Str)} {W : WX} {F0 H0 : Hp}
end
end DN
/-! known tuples of texts: written ones, + -/
namespace DN
open PySem PySem.Spec PyProof.Rows L2
open LamX (Tabs ExtN)
section
variable {X : Cx} {T : List (Addr × Str)} {W : WX}
end
end DN
/-! M-mode: one slot holds a dict of text keys that is changed, also by callees -/
namespace DN
open PySem PySem.Spec PyProof.Rows L2
open LamX (Tabs ExtN)

/-! ### data without lists and dicts -/
mutual
def D.imm : D → Bool
  | .non => true
  | .bl _ => true
  | .int _ => true
  | .str _ => true
  | .fn _ => true
  | .ty _ => true
  | .adr _ => true
  | .pro _ => true
  | .pw _ => true
  | .tup ds => D.imms ds
  | _ => false
def D.imms : List D → Bool
  | [] => true
  | d :: ds => D.imm d && D.imms ds
end
/-- F without the addresses of S -/
def cut (F : Hp) (S : List Addr) : Hp := fun a => if a ∈ S then none else F a
theorem cut_out {F : Hp} {S : List Addr} {a : Addr} (h : a ∉ S) : cut F S a = F a := if_neg h
/-- lists and dicts alone stand there -/
def Soft (F : Hp) (S : List Addr) : Prop := ∀ a ∈ S, ∀ o, F a = some o → (∃ xs, o = .lst xs) ∨ ∃ kvs, o = .dK kvs
theorem cut_sqT {K : PySem.W.Frag} {F : Hp} {S : List Addr} {a : Addr} {xs : List V} (h : SqT K F a xs) (hs : Soft F S) : SqT K (cut F S) a xs := by
  rcases h with h | h
  · refine .inl ?_
    rcases h with h | ⟨o, h⟩
    · refine .inl ?_
      rw [cut_out fun z => ?_]; exact h
      rcases hs a z _ h with ⟨_, e⟩ | ⟨_, e⟩ <;> cases e
    · refine .inr ⟨o, ?_⟩
      rw [cut_out fun z => ?_]; exact h
      rcases hs a z _ h with ⟨_, e⟩ | ⟨_, e⟩ <;> cases e
  · exact .inr h
mutual
theorem Rp.cutS {K : PySem.W.Frag} {F : Hp} {S : List Addr} (hs : Soft F S) : ∀ {v : V} {d : D}, Rp K F v d → d.imm = true → Rp K (cut F S) v d
  | _, _, .non, _ => .non
  | _, _, .bl b, _ => .bl b
  | _, _, .int i, _ => .int i
  | _, _, .str x, _ => .str x
  | _, _, .fn x, _ => .fn x
  | _, _, .ty n, _ => .ty n
  | _, _, .lst h t, e => by unfold D.imm at e; cases e
  | _, _, .tup h t, e => .tup (cut_sqT h hs) (RpAll.cutS hs t (by unfold D.imm at e; exact e))
  | _, _, .dK h, e => by unfold D.imm at e; cases e
  | _, _, .dT h, e => by unfold D.imm at e; cases e
  | _, _, .arr h, e => by unfold D.imm at e; cases e
  | _, _, .pro ⟨o, h1, h2, h3⟩, _ => .pro ⟨o, h1, h2, by
      rw [cut_out fun z => ?_]; exact h3
      rcases hs _ z _ h3 with ⟨_, e⟩ | ⟨_, e⟩ <;> cases e⟩
  | _, _, .pw h, _ => .pw (by
      rw [cut_out fun z => ?_]; exact h
      rcases hs _ z _ h with ⟨_, e⟩ | ⟨_, e⟩ <;> cases e)
  | _, _, .adr a, _ => .adr a
  | _, _, .frm h t, e => by unfold D.imm at e; cases e
  | _, _, .tab h1 h2 h3 t, e => by unfold D.imm at e; cases e
theorem RpAll.cutS {K : PySem.W.Frag} {F : Hp} {S : List Addr} (hs : Soft F S) : ∀ {vs : List V} {ds : List D}, RpAll K F vs ds → D.imms ds = true → RpAll K (cut F S) vs ds
  | _, _, .nil, _ => .nil
  | _, _, .cons h t, e => by
    unfold D.imms at e
    rw [Bool.and_eq_true] at e
    exact .cons (Rp.cutS hs h e.1) (RpAll.cutS hs t e.2)
end
/-! ### the state -/
/-- the fields: tuples and flat things, or own lists of such (their addresses) -/
inductive Flds (K : PySem.W.Frag) (F H : Hp) : List V → List D → List Addr → Prop
  | nil : Flds K F H [] [] []
  | imm {v : V} {d : D} {vs : List V} {ds : List D} {S : List Addr} : d.imm = true → Rp K F v d → Flds K F H vs ds S → Flds K F H (v :: vs) (d :: ds) S
  | lst {a : Addr} {xs : List V} {es : List D} {vs : List V} {ds : List D} {S : List Addr} : H a = some (.lst xs) → RpAll K F xs es → D.imms es = true → Flds K F H vs ds S → Flds K F H (.ref a :: vs) (.lst es :: ds) (a :: S)
abbrev MSt := List Str × List D
structure StAt (K : PySem.W.Frag) (F H : Hp) (p : Addr) (m : MSt) (S : List Addr) : Prop where
  ex : ∃ ws S', S = p :: S' ∧ H p = some (.dK (kvK m.1 ws)) ∧ m.1.length = ws.length ∧ Flds K F H ws m.2 S'
  nd : S.Nodup
  out : ∀ a ∈ S, F a = none
  nk : m.1.Nodup
theorem Flds.solid {K : PySem.W.Frag} {F H : Hp} {ws : List V} {ds : List D} {S : List Addr} (h : Flds K F H ws ds S) : ∀ a ∈ S, ∃ xs, H a = some (.lst xs) := by
  induction h with
  | nil => intro a h; cases h
  | imm _ _ _ ih => exact ih
  | lst h _ _ _ ih =>
    intro a ha
    rcases List.mem_cons.mp ha with rfl | ha
    · exact ⟨_, h⟩
    · exact ih a ha
theorem StAt.solid {K : PySem.W.Frag} {F H : Hp} {p : Addr} {m : MSt} {S : List Addr} (h : StAt K F H p m S) : ∀ a ∈ S, ∃ o, H a = some o ∧ ((∃ xs, o = .lst xs) ∨ ∃ kvs, o = .dK kvs) := by
  obtain ⟨ws, S', rfl, h1, _, h2⟩ := h.ex
  intro a ha
  rcases List.mem_cons.mp ha with rfl | ha
  · exact ⟨_, h1, .inr ⟨_, rfl⟩⟩
  · obtain ⟨xs, e⟩ := h2.solid a ha
    exact ⟨_, e, .inl ⟨_, rfl⟩⟩
theorem soft_nt {o : HO} (h : (∃ xs, o = .lst xs) ∨ ∃ kvs, o = .dK kvs) : ∀ ps, o ≠ .tbl ps := fun ps z => by
  rcases h with ⟨_, e⟩ | ⟨_, e⟩ <;> (rw [e] at z; cases z)
theorem StAt.mem {K : PySem.W.Frag} {F H : Hp} {p : Addr} {m : MSt} {S : List Addr} (h : StAt K F H p m S) : p ∈ S := by
  obtain ⟨_, _, rfl, _⟩ := h.ex
  exact List.mem_cons_self
theorem Flds.mono {K : PySem.W.Frag} {F H F' H' : Hp} {ws : List V} {ds : List D} {S : List Addr} (sf : Sub F F') (sh : ∀ a ∈ S, ∀ xs, H a = some (.lst xs) → H' a = some (.lst xs)) (h : Flds K F H ws ds S) : Flds K F' H' ws ds S := by
  induction h with
  | nil => exact .nil
  | imm e r _ ih => exact .imm e (r.mono sf) (ih sh)
  | lst h r e _ ih => exact .lst (sh _ List.mem_cons_self _ h) (r.mono sf) e (ih fun a ha => sh a (List.mem_cons_of_mem _ ha))
section
variable {K : PySem.W.Frag} {T : List (Addr × Str)} {W : WX} {F0 G F H F1 H1 : Hp} {σ : L2.St} {ρ : Rho} {p : Addr} {m : MSt} {S : List Addr}
theorem StAt.nx (h : StAt K F H p m S) (n : Nx T F H F1 H1) : StAt K F1 H1 p m S where
  ex := by
    obtain ⟨ws, S', e, h1, hl, h2⟩ := h.ex
    exact ⟨ws, S', e, n.keep h1 (fun ps z => by cases z), hl, h2.mono n.f fun a _ xs e => n.keep e fun ps z => by cases z⟩
  nd := h.nd
  nk := h.nk
  out := fun a ha => by
    obtain ⟨o, h1, h2⟩ := h.solid a ha
    exact n.out h1 (soft_nt h2) (h.out a ha) fun xs z => by rcases h2 with ⟨_, e⟩ | ⟨_, e⟩ <;> (rw [e] at z; cases z)
/-! ### lent: the state stands in the frozen part for a while -/
def lend (F H : Hp) (S : List Addr) : Hp := fun a => if a ∈ S then H a else F a
theorem lend_in {a : Addr} (h : a ∈ S) : lend F H S a = H a := if_pos h
theorem lend_out {a : Addr} (h : a ∉ S) : lend F H S a = F a := if_neg h
theorem lend_sub (h : ∀ a ∈ S, F a = none) : Sub F (lend F H S) := fun a o e => by
  rw [lend_out fun z => by rw [h a z] at e; cases e]; exact e
theorem lend_z (z : Fz F H) (h : StAt K F H p m S) : Fz (lend F H S) H where
  sub := fun a o e => by
    by_cases ha : a ∈ S
    · rw [lend_in ha] at e; exact e
    · rw [lend_out ha] at e; exact z.sub a o e
  nt := fun a ps e => by
    by_cases ha : a ∈ S
    · rw [lend_in ha] at e
      obtain ⟨o, h1, h2⟩ := h.solid a ha
      rw [e] at h1; cases h1
      exact soft_nt h2 ps rfl
    · rw [lend_out ha] at e; exact z.nt a ps e
theorem lend_flds {ws : List V} {ds : List D} {S' : List Addr} (sb : ∀ a ∈ S', a ∈ S) (sf : Sub F (lend F H S)) (h : Flds K F H ws ds S') : RpAll K (lend F H S) ws ds := by
  induction h with
  | nil => exact .nil
  | imm e r _ ih => exact .cons (r.mono sf) (ih sb)
  | lst h r e _ ih => exact .cons (.lst (by rw [lend_in (sb _ List.mem_cons_self)]; exact h) (r.mono sf)) (ih fun a ha => sb a (List.mem_cons_of_mem _ ha))
theorem lend_rp (h : StAt K F H p m S) : Rp K (lend F H S) (.ref p) (.tab (some p) m.1 m.2) := by
  obtain ⟨ws, S', e, h1, hl, h2⟩ := h.ex
  exact .tab (fun q e => Option.some.inj e) (by rw [lend_in h.mem]; exact h1) hl (lend_flds (fun a ha => by rw [e]; exact List.mem_cons_of_mem _ ha) (lend_sub h.out) h2)
end
end DN
namespace DN
open PySem PySem.Spec PyProof.Rows L2
open LamX (Tabs ExtN)

/-! ### M-mode: statements -/
inductive SM where
  | nx (ρ : Rho) (m : MSt) | fin (b : Bool) (m : MSt) | rt (d : D) | ex (n : Str) | bad
def Free (G : Hp) (S : List Addr) : Prop := ∀ a ∈ S, ∀ o, G a = some o → ∃ ps, o = HO.tbl ps
structure Mg (K : PySem.W.Frag) (T : List (Addr × Str)) (F0 G F H : Hp) (σ : L2.St) (ρ : Rho) (i : Nat) (p : Addr) (m : MSt) (S : List Addr) : Prop where
  at_ : At K T F H σ ρ
  nx : Nx T F0 G F H
  no : ∀ (j : Nat) (d : D), ρ[j]? ≠ some (En.o d)
  me : ρ[i]? = some (En.z (.adr p))
  st : StAt K F H p m S
  fr : Free G S
def aftM (K : PySem.W.Frag) (T : List (Addr × Str)) (W : WX) (F0 G F : Hp) (i : Nat) (p : Addr) (Z : Ends) : SM → Prop
  | .nx ρ m => ∀ σ F' H' S, Mg K T F0 G F' H' σ ρ i p m S → Sub F F' → Z.nx σ H'
  | .fin b m => ∀ F' H' S, Nx T F0 G F' H' → StAt K F' H' p m S → Free G S → Z.rt (if b = true then .ref p else .non) H'
  | .rt d => ∀ v F' H', Nx T F0 G F' H' → Rp K F' v d → Z.rt v H'
  | .ex n => ∀ σ F' H', Nx T F0 G F' H' → W (.ref (He.ga K n)) none σ H'
  | .bad => False
section
variable {K : PySem.W.Frag} {T : List (Addr × Str)} {W : WX} {F0 G F H F1 H1 : Hp} {σ : L2.St} {ρ : Rho} {i : Nat} {p : Addr} {m : MSt} {S : List Addr} {Z : Ends}
theorem aftM.mono {r : SM} (e : Sub F F1) (h : aftM K T W F0 G F i p Z r) : aftM K T W F0 G F1 i p Z r := by
  cases r with
  | nx ρ m => exact fun σ F' H' S g s => h σ F' H' S g (e.trans s)
  | fin b m => exact h
  | rt d => exact h
  | ex n => exact h
  | bad => exact h
theorem Mg.step (g : Mg K T F0 G F H σ ρ i p m S) (n : Nx T F H F1 H1) : Mg K T F0 G F1 H1 σ ρ i p m S := ⟨g.at_.nx n, g.nx.trans n, g.no, g.me, g.st.nx n, g.fr⟩
end
def adrOf (i : Nat) (ρ : Rho) : Option Addr := match ρ[i]? with
  | some (.z (.adr p)) => some p
  | _ => none
theorem adrOf_me {i : Nat} {ρ : Rho} {p : Addr} (h : ρ[i]? = some (En.z (.adr p))) : adrOf i ρ = some p := by
  unfold adrOf; rw [h]
def noOwn (ρ : Rho) : Bool := ρ.all fun e => match e with
  | .o _ => false
  | _ => true
theorem noOwn_ok {ρ : Rho} (h : noOwn ρ = true) (j : Nat) (d : D) : ρ[j]? ≠ some (En.o d) := fun e => by
  have := List.all_eq_true.mp h _ (List.mem_of_getElem? e)
  cases this
def lent (i : Nat) (ρ : Rho) (m : MSt) : Rho := match adrOf i ρ with
  | some p => ρ.set i (.z (.tab (some p) m.1 m.2))
  | none => ρ
section
variable {K : PySem.W.Frag} {T : List (Addr × Str)} {W : WX} {F0 G F H F1 H1 : Hp} {σ : L2.St} {ρ : Rho} {i : Nat} {p : Addr} {m : MSt} {S : List Addr} {Z : Ends}
theorem lent_me (h : ρ[i]? = some (En.z (.adr p))) : lent i ρ m = ρ.set i (.z (.tab (some p) m.1 m.2)) := by
  unfold lent; rw [adrOf_me h]
theorem Mg.lent (g : Mg K T F0 G F H σ ρ i p m S) : At K T (lend F H S) H σ (DN.lent i ρ m) := by
  rw [lent_me g.me]
  have sb := lend_sub (H := H) g.st.out
  obtain ⟨v, h1, h2⟩ := g.at_.r.z i _ g.me
  cases h2
  have r : Rl K (lend F H S) H σ ρ := ⟨g.at_.r.len, fun j d e => let ⟨v, h1, h2⟩ := g.at_.r.z j d e; ⟨v, h1, h2.mono sb⟩, fun j d e => absurd e (g.no j d), fun j k d e q1 q2 _ h => absurd h (g.no j d)⟩
  have il : i < ρ.length := (List.getElem?_eq_some_iff.mp g.me).1
  have e : σ.set i (some (V.ref p)) = σ := by
    refine List.ext_getElem? fun j => ?_
    rw [List.getElem?_set]
    split
    · rename_i hij; subst hij
      rw [if_pos (by rw [g.at_.r.len]; exact il), h1]
    · rfl
  have := r.set (i := i) (lend_rp g.st)
  rw [e] at this
  exact ⟨lend_z g.at_.z g.st, g.at_.t, this⟩
end
section
variable {X : Cx} {T : List (Addr × Str)} {W : WX} {F0 G : Hp} {i : Nat}
theorem Mg.adr {K : PySem.W.Frag} {F H : Hp} {σ : L2.St} {ρ : Rho} {p q : Addr} {m m' : MSt} {S S' : List Addr} {F1 H1 : Hp} (g : Mg K T F0 G F H σ ρ i p m S) (e : ρ[i]? = some (En.z (.adr q))) : p = q := by
  rw [g.me] at e; cases e; rfl
end
end DN
namespace DN
open PySem PySem.Spec PyProof.Rows L2
open LamX (Tabs ExtN)

/-! ### the state is changed -/
def fset {α : Type} : List Str → List α → Str → α → List α
  | k :: ks, w :: ws, x, v => (if k = x then v else w) :: fset ks ws x v
  | _, ws, _, _ => ws
def fget {α : Type} : List Str → List α → Str → Option α
  | k :: ks, w :: ws, x => if k = x then some w else fget ks ws x
  | _, _, _ => none
theorem fset_len {α : Type} : ∀ (ks : List Str) (ws : List α) (x : Str) (v : α), (fset ks ws x v).length = ws.length
  | [], _, _, _ => rfl
  | _ :: _, [], _, _ => rfl
  | k :: ks, w :: ws, x, v => by
    show (fset ks ws x v).length + 1 = ws.length + 1
    rw [fset_len ks ws x v]
theorem fset_out {α : Type} : ∀ (ks : List Str) (ws : List α) (x : Str) (v : α), x ∉ ks → fset ks ws x v = ws
  | [], _, _, _, _ => rfl
  | _ :: _, [], _, _, _ => rfl
  | k :: ks, w :: ws, x, v, h => by
    show (if k = x then v else w) :: fset ks ws x v = _
    rw [if_neg fun e => h (by rw [e]; exact List.mem_cons_self), fset_out ks ws x v fun e => h (List.mem_cons_of_mem _ e)]
theorem kv_any (x : Str) : ∀ (ks : List Str) (ws : List V), ks.length = ws.length → ((kvK ks ws).any fun kv => decide (kv.1 = Sum.inr x)) = decide (x ∈ ks)
  | [], [], _ => rfl
  | k :: ks, w :: ws, h => by
    show (decide ((Sum.inr k : Key) = Sum.inr x) || (kvK ks ws).any fun kv => decide (kv.1 = Sum.inr x)) = _
    rw [kv_any x ks ws (by simpa using h)]
    by_cases e : k = x
    · subst e; simp
    · have e2 : ¬ (Sum.inr k : Key) = Sum.inr x := fun z => e (Sum.inr.inj z)
      have e3 : ¬ x = k := fun z => e z.symm
      simp [e2, e3]
theorem put_kvK {x : Str} {v : V} {ks : List Str} {ws : List V} (hl : ks.length = ws.length) (hx : x ∈ ks) : putK (kvK ks ws) (Sum.inr x) v = kvK ks (fset ks ws x v) := by
  unfold putK
  rw [if_pos (by rw [kv_any x ks ws hl]; exact decide_eq_true hx)]
  clear hx
  induction ks generalizing ws with
  | nil => cases ws <;> rfl
  | cons k ks ih =>
    cases ws with
    | nil => rfl
    | cons w ws =>
      show (if (Sum.inr k : Key) = Sum.inr x then ((Sum.inr k : Key), v) else (Sum.inr k, w)) :: (kvK ks ws).map _ = (Sum.inr k, if k = x then v else w) :: kvK ks (fset ks ws x v)
      rw [ih (by simpa using hl)]
      by_cases e : k = x
      · subst e; rw [if_pos rfl, if_pos rfl]
      · rw [if_neg fun z => e (Sum.inr.inj z), if_neg e]
section
variable {K : PySem.W.Frag} {T : List (Addr × Str)} {W : WX} {F0 G F H F1 H1 : Hp} {σ : L2.St} {ρ : Rho} {i : Nat} {p : Addr} {m m' : MSt} {S S' : List Addr} {Z : Ends}
theorem Flds.length {ws : List V} {ds : List D} (h : Flds K F H ws ds S) : ws.length = ds.length := by
  induction h with
  | nil => rfl
  | imm _ _ _ ih => rw [List.length_cons, List.length_cons, ih]
  | lst _ _ _ _ ih => rw [List.length_cons, List.length_cons, ih]
theorem Flds.setI {ws : List V} {ds : List D} {x : Str} {v : V} {d : D} (hd : d.imm = true) (r : Rp K F v d) (h : Flds K F H ws ds S) : ∀ (ks : List Str), ∃ S', S'.Sublist S ∧ Flds K F H (fset ks ws x v) (fset ks ds x d) S' := by
  induction h with
  | nil => intro ks; cases ks <;> exact ⟨[], List.Sublist.refl _, .nil⟩
  | @imm v0 d0 vs ds S e r0 h ih =>
    intro ks
    cases ks with
    | nil => exact ⟨S, List.Sublist.refl _, .imm e r0 h⟩
    | cons k ks =>
      obtain ⟨S', s1, s2⟩ := ih ks
      refine ⟨S', s1, ?_⟩
      show Flds K F H ((if k = x then v else v0) :: _) ((if k = x then d else d0) :: _) S'
      by_cases hk : k = x
      · rw [if_pos hk, if_pos hk]; exact .imm hd r s2
      · rw [if_neg hk, if_neg hk]; exact .imm e r0 s2
  | @lst a xs es vs ds S hx r0 e h ih =>
    intro ks
    cases ks with
    | nil => exact ⟨_, List.Sublist.refl _, .lst hx r0 e h⟩
    | cons k ks =>
      obtain ⟨S', s1, s2⟩ := ih ks
      show ∃ S'', List.Sublist S'' (a :: S) ∧ Flds K F H ((if k = x then v else .ref a) :: _) ((if k = x then d else .lst es) :: _) S''
      by_cases hk : k = x
      · rw [if_pos hk, if_pos hk]; exact ⟨S', s1.cons _, .imm hd r s2⟩
      · rw [if_neg hk, if_neg hk]; exact ⟨a :: S', s1.cons_cons _, .lst hx r0 e s2⟩
theorem soft_code {o : HO} {a : Addr} (h : (∃ xs, o = .lst xs) ∨ ∃ kvs, o = .dK kvs) : ∀ q, o ≠ LamX.CodeO a q := fun q z => by
  unfold LamX.CodeO at z
  rcases h with ⟨_, e⟩ | ⟨_, e⟩ <;> (rw [e] at z; cases z)
theorem Mg.put {q : Addr} {o' : HO} (g : Mg K T F0 G F H σ ρ i p m S) (hq : q ∈ S) (st : StAt K F (upd H q o') p m' S') (fr : Free G S') : Mg K T F0 G F (upd H q o') σ ρ i p m' S' := by
  obtain ⟨o, h1, h2⟩ := g.st.solid q hq
  have fq := g.st.out q hq
  have z1 : Fz F (upd H q o') := ⟨fun b u eb => by
    rw [upd_ne fun z => by rw [z, fq] at eb; cases eb]; exact g.at_.z.sub _ _ eb, g.at_.z.nt⟩
  refine ⟨⟨z1, tabs_updG g.at_.t h1 (soft_nt h2) (soft_code h2), ⟨g.at_.r.len, g.at_.r.z, fun j d e => absurd e (g.no j d), fun j k d e q1 q2 _ h => absurd h (g.no j d)⟩⟩, ⟨g.nx.f, z1, fun b u eb no => ?_, g.nx.new, fun t => tabs_updG (g.nx.tab t) h1 (soft_nt h2) (soft_code h2)⟩, g.no, g.me, st, fr⟩
  rw [upd_ne fun z => by
    subst z
    obtain ⟨ps, k⟩ := g.fr b hq u eb
    exact no ps k]
  exact g.nx.h _ _ eb no
theorem StAt.setI {x : Str} {v : V} {d : D} (h : StAt K F H p m S) (hd : d.imm = true) (r : Rp K F v d) (hx : x ∈ m.1) : ∃ ws S', H p = some (.dK (kvK m.1 ws)) ∧ m.1.length = ws.length ∧ (∀ a ∈ S', a ∈ S) ∧ StAt K F (upd H p (.dK (putK (kvK m.1 ws) (Sum.inr x) v))) p (m.1, fset m.1 m.2 x d) S' := by
  obtain ⟨ws, S0, rfl, h1, hl, h2⟩ := h.ex
  obtain ⟨S', s1, s2⟩ := h2.setI hd r (x := x) m.1
  have nd := List.nodup_cons.mp h.nd
  refine ⟨ws, p :: S', h1, hl, fun a ha => ?_, ⟨_, S', rfl, by rw [upd_same, put_kvK hl hx], by rw [fset_len]; exact hl, s2.mono (Sub.refl F) fun a ha xs e => ?_⟩, ?_, fun a ha => ?_, h.nk⟩
  · rcases List.mem_cons.mp ha with z | z
    · rw [z]; exact List.mem_cons_self
    · exact List.mem_cons_of_mem _ (s1.subset z)
  · rw [upd_ne fun z => nd.1 (by rw [← z]; exact s1.subset ha)]; exact e
  · exact List.nodup_cons.mpr ⟨fun z => nd.1 (s1.subset z), nd.2.sublist s1⟩
  · rcases List.mem_cons.mp ha with z | z
    · rw [z]; exact h.out p List.mem_cons_self
    · exact h.out a (List.mem_cons_of_mem _ (s1.subset z))
end
section
variable {X : Cx} {T : List (Addr × Str)} {W : WX} {F0 G : Hp} {i : Nat}
end
end DN
namespace DN
open PySem PySem.Spec PyProof.Rows L2
open LamX (Tabs ExtN)

/-! ### a dict of text keys is read -/
section
variable {X : Cx} {T : List (Addr × Str)} {W : WX} {F0 G : Hp} {i : Nat}
/-! ### an own list of the state is changed -/
/-- the list of the field k -/
theorem Flds.at_ {K : PySem.W.Frag} {F H : Hp} {x : Str} {ws : List V} {ds : List D} {S : List Addr} (h : Flds K F H ws ds S) : S.Nodup → ∀ (ks : List Str), ks.Nodup → ∀ {es : List D}, fget ks ds x = some (.lst es) →
    ∃ a xs, fget ks ws x = some (.ref a) ∧ a ∈ S ∧ H a = some (.lst xs) ∧ RpAll K F xs es ∧ D.imms es = true ∧
      ∀ ys fs, RpAll K F ys fs → D.imms fs = true → Flds K F (upd H a (.lst ys)) ws (fset ks ds x (.lst fs)) S := by
  induction h with
  | nil => intro _ ks _ es e; cases ks <;> cases e
  | @imm v0 d0 vs ds S hi r0 h ih =>
    intro nd ks nk es e
    cases ks with
    | nil => cases e
    | cons k ks =>
      rw [List.nodup_cons] at nk
      have e : (if k = x then some d0 else fget ks ds x) = some (.lst es) := e
      by_cases hk : k = x
      · rw [if_pos hk] at e
        cases e
        unfold D.imm at hi; cases hi
      · rw [if_neg hk] at e
        obtain ⟨a, xs, h1, h2, h3, h4, h5, h6⟩ := ih nd ks nk.2 e
        refine ⟨a, xs, ?_, h2, h3, h4, h5, fun ys fs r hf => ?_⟩
        · show (if k = x then some v0 else fget ks vs x) = _
          rw [if_neg hk]; exact h1
        · show Flds K F _ _ ((if k = x then D.lst fs else d0) :: _) S
          rw [if_neg hk]
          exact .imm hi r0 (h6 ys fs r hf)
  | @lst a xs es0 vs ds S hx r0 hi h ih =>
    intro nd ks nk es e
    have nd' := List.nodup_cons.mp nd
    cases ks with
    | nil => cases e
    | cons k ks =>
      rw [List.nodup_cons] at nk
      have e : (if k = x then some (D.lst es0) else fget ks ds x) = some (.lst es) := e
      by_cases hk : k = x
      · rw [if_pos hk] at e
        cases e
        refine ⟨a, xs, ?_, List.mem_cons_self, hx, r0, hi, fun ys fs r hf => ?_⟩
        · show (if k = x then some (V.ref a) else fget ks vs x) = _
          rw [if_pos hk]
        · show Flds K F _ _ ((if k = x then D.lst fs else D.lst es0) :: fset ks ds x (.lst fs)) (a :: S)
          rw [if_pos hk, fset_out ks ds x _ (by rw [← hk]; exact nk.1)]
          exact .lst upd_same r hf (h.mono (Sub.refl F) fun b hb zs q => by rw [upd_ne fun z => nd'.1 (by rw [← z]; exact hb)]; exact q)
      · rw [if_neg hk] at e
        obtain ⟨b, zs, h1, h2, h3, h4, h5, h6⟩ := ih nd'.2 ks nk.2 e
        refine ⟨b, zs, ?_, List.mem_cons_of_mem _ h2, h3, h4, h5, fun ys fs r hf => ?_⟩
        · show (if k = x then some (V.ref a) else fget ks vs x) = _
          rw [if_neg hk]; exact h1
        · show Flds K F _ _ ((if k = x then D.lst fs else D.lst es0) :: _) (a :: S)
          rw [if_neg hk]
          exact .lst (by rw [upd_ne fun z => nd'.1 (by rw [z]; exact h2)]; exact hx) r0 hi (h6 ys fs r hf)
theorem StAt.at_ {K : PySem.W.Frag} {F H : Hp} {p : Addr} {m : MSt} {S : List Addr} {x : Str} {es : List D} (h : StAt K F H p m S) (e : fget m.1 m.2 x = some (.lst es)) :
    ∃ ws a xs, H p = some (.dK (kvK m.1 ws)) ∧ fget m.1 ws x = some (.ref a) ∧ a ∈ S ∧ H a = some (.lst xs) ∧ RpAll K F xs es ∧ D.imms es = true ∧
      ∀ ys fs, RpAll K F ys fs → D.imms fs = true → StAt K F (upd H a (.lst ys)) p (m.1, fset m.1 m.2 x (.lst fs)) S := by
  obtain ⟨ws, S0, rfl, h1, hl, h2⟩ := h.ex
  have nd := List.nodup_cons.mp h.nd
  obtain ⟨a, xs, k1, k2, k3, k4, k5, k6⟩ := h2.at_ nd.2 m.1 h.nk e
  refine ⟨ws, a, xs, h1, k1, List.mem_cons_of_mem _ k2, k3, k4, k5, fun ys fs r hf => ⟨⟨ws, S0, rfl, ?_, hl, k6 ys fs r hf⟩, h.nd, h.out, h.nk⟩⟩
  rw [upd_ne fun z => nd.1 (by rw [z]; exact k2)]; exact h1
end
end DN
namespace DN
open PySem PySem.Spec PyProof.Rows L2
open LamX (Tabs ExtN)

/-! ### procedures and makers -/
section
variable {K : PySem.W.Frag} {T : List (Addr × Str)} {W : WX} {F0 G F H F1 H1 : Hp} {σ : L2.St} {ρ : Rho} {i : Nat} {p : Addr} {m m' : MSt} {S S' : List Addr} {Z : Ends}
end
section
variable {X : Cx} {T : List (Addr × Str)} {W : WX} {F0 G : Hp} {i : Nat}
end
/-! a def whose body goes over to M-mode: for every address p -/
section
variable {P : Program} {w : World} {K : PySem.W.Frag} {mg : Str → Option Value} {base : Heap} {T : List (Addr × Str)} {k : Nat} {x qual : Str} {params : Arguments} {body : List Stmt} {scope : Scope} {kws : List (Str × V)} {f : Addr} {fd : FuncData} {N ps : List Str} {n i : Nat} {s : Rho → Addr → SM}
end
section
variable {X : Cx} {T : List (Addr × Str)} {W : WX} {F0 H0 : Hp} {i : Nat}
theorem Mg.make {K : PySem.W.Frag} {F H F1 H1 : Hp} {σ : L2.St} {ρ : Rho} {p : Addr} {m : MSt} {S : List Addr} (g : Sg K T F0 H0 F H σ ρ) (n : Nx T F H F1 H1) (st : StAt K F1 H1 p m S) (fr : Free H S) (hn : noOwn ρ = true) (il : i < ρ.length) :
    Mg K T F0 H0 F1 H1 (σ.set i (some (.ref p))) (ρ.set i (.z (.adr p))) i p m S := by
  have g1 := g.step n
  refine ⟨⟨g1.at_.z, g1.at_.t, g1.at_.r.set (.adr p)⟩, g1.nx, fun j d e => ?_, ?_, st, fun a ha o e => ?_⟩
  · rw [List.getElem?_set] at e
    split at e
    · first | cases e | (split at e <;> cases e)
    · exact noOwn_ok hn j d e
  · rw [List.getElem?_set, if_pos rfl, if_pos il]
  · by_cases z : ∃ ps, o = .tbl ps
    · exact z
    · exact fr a ha o (g.nx.h a o e fun ps y => z ⟨ps, y⟩)
end
end DN
/-! M-mode: for, update, a state made by a display or by dict(pairs); own lists by +, * and by choice -/
namespace DN
open PySem PySem.Spec PyProof.Rows L2
open LamX (Tabs ExtN)

section
variable {X : Cx} {T : List (Addr × Str)} {W : WX} {F0 G : Hp} {i : Nat}
end
/-! ### own lists by + and *, and one of two -/
section
variable {X : Cx} {T : List (Addr × Str)} {W : WX} {F0 G : Hp} {i : Nat}
end
end DN
namespace DN
open PySem PySem.Spec PyProof.Rows L2
open LamX (Tabs ExtN)
section
variable {X : Cx} {T : List (Addr × Str)} {W : WX} {F0 G : Hp} {i : Nat}
theorem aftO.mono {K : PySem.W.Frag} {σ : L2.St} {F H F1 H1 : Hp} {Q : V → Hp → Prop} {r : Res D} (n : Nx T F H F1 H1) (h : aftO K T W σ F H Q r) : aftO K T W σ F1 H1 Q r := by
  cases r with
  | ok d =>
    cases d with
    | lst ds => exact fun p vs F' H' n2 hp hx rx fr => h p vs F' H' (n.trans n2) hp hx rx (back_tbl n.h fr)
    | _ => exact h
  | ex m => exact fun F' H' n2 => h F' H' (n.trans n2)
  | bad => exact h
end
end DN
/-! M-mode: the state's update; a state made by a display -/
namespace DN
open PySem PySem.Spec PyProof.Rows L2
open LamX (Tabs ExtN)
/-! ### a field put, there or not -/
def fput (m : MSt) (k : Str) (d : D) : MSt := if k ∈ m.1 then (m.1, fset m.1 m.2 k d) else (m.1 ++ [k], m.2 ++ [d])
theorem kv_snoc {x : Str} {v : V} : ∀ {ks : List Str} {ws : List V}, ks.length = ws.length → kvK (ks ++ [x]) (ws ++ [v]) = kvK ks ws ++ [(Sum.inr x, v)]
  | [], [], _ => rfl
  | k :: ks, w :: ws, h => by
    show (Sum.inr k, w) :: kvK (ks ++ [x]) (ws ++ [v]) = (Sum.inr k, w) :: (kvK ks ws ++ [(Sum.inr x, v)])
    rw [kv_snoc (by simpa using h)]
theorem put_kvN {x : Str} {v : V} {ks : List Str} {ws : List V} (hl : ks.length = ws.length) (hx : x ∉ ks) : putK (kvK ks ws) (Sum.inr x) v = kvK (ks ++ [x]) (ws ++ [v]) := by
  unfold putK
  rw [if_neg (by rw [kv_any x ks ws hl]; simpa using hx), kv_snoc hl]
section
variable {K : PySem.W.Frag} {T : List (Addr × Str)} {W : WX} {F0 G F H F1 H1 : Hp} {σ : L2.St} {ρ : Rho} {i : Nat} {p : Addr} {m m' : MSt} {S S' : List Addr} {Z : Ends}
theorem Flds.snoc {ws : List V} {ds : List D} {v : V} {d : D} (hd : d.imm = true) (r : Rp K F v d) (h : Flds K F H ws ds S) : Flds K F H (ws ++ [v]) (ds ++ [d]) S := by
  induction h with
  | nil => exact .imm hd r .nil
  | imm e r0 _ ih => exact .imm e r0 ih
  | lst hx r0 e _ ih => exact .lst hx r0 e ih
theorem StAt.kvs (h : StAt K F H p m S) : ∃ ws, H p = some (.dK (kvK m.1 ws)) ∧ m.1.length = ws.length := by
  obtain ⟨ws, S0, _, h1, hl, _⟩ := h.ex
  exact ⟨ws, h1, hl⟩
theorem StAt.put1 {x : Str} {v : V} {d : D} {kvs : List (Key × V)} (h : StAt K F H p m S) (hk : H p = some (.dK kvs)) (hd : d.imm = true) (r : Rp K F v d) : ∃ S', (∀ a ∈ S', a ∈ S) ∧ StAt K F (upd H p (.dK (putK kvs (Sum.inr x) v))) p (fput m x d) S' := by
  unfold fput
  by_cases hx : x ∈ m.1
  · rw [if_pos hx]
    obtain ⟨ws, S', h1, hl, h2, h3⟩ := h.setI hd r hx
    rw [hk] at h1
    cases h1
    exact ⟨S', h2, h3⟩
  · rw [if_neg hx]
    obtain ⟨ws, S0, rfl, h1, hl, h2⟩ := h.ex
    rw [hk] at h1
    cases h1
    have nd := List.nodup_cons.mp h.nd
    refine ⟨p :: S0, fun a ha => ha, ⟨_, S0, rfl, by rw [upd_same, put_kvN hl hx], by rw [List.length_append, List.length_append, hl]; rfl, (h2.snoc hd r).mono (Sub.refl F) fun a ha xs e => ?_⟩, h.nd, h.out, ?_⟩
    · rw [upd_ne fun z => nd.1 (by rw [← z]; exact ha)]; exact e
    · show (m.1 ++ [x]).Nodup
      rw [List.nodup_append]
      refine ⟨h.nk, by simp, fun a ha b hb z => ?_⟩
      simp at hb
      subst hb; subst z
      exact hx ha
theorem upd_upd {a : Addr} {o o' : HO} : upd (upd H a o) a o' = upd H a o' := by
  funext b
  by_cases e : b = a
  · subst e; rw [upd_same, upd_same]
  · rw [upd_ne e, upd_ne e, upd_ne e]
end
section
variable {X : Cx} {T : List (Addr × Str)} {W : WX} {F0 G : Hp} {i : Nat}
end
/-! ### a state made by a display -/
section
variable {X : Cx} {T : List (Addr × Str)} {W : WX} {F0 G : Hp} {i : Nat}
end
end DN
/-! list(zip(a, b)): every pair that was handed out is still held by the list -/
namespace DN
open PySem PySem.Spec PyProof.Rows L2
open LamX (Tabs ExtN)
namespace LZ
/-- a zip whose pair T is out -/
abbrev Out (h : Heap) (z TI TO T : Addr) (f : Bool) : Prop := h.get? z = some { cls := .type "zip", data := .fields #[rawInt T, .bool f, .bool false, .ref TI, .ref TO] }
section
variable {prog : Program} {w : World} {A : Around} {E : Value → Shared → Prop} {s : Shared} {z TI TO i1 i2 T : Addr} {fp1 fp2 : List Addr} {n1 n2 i : Nat} {P1 P2 : Nat → Value → Prop} {St1 St2 : Nat → Heap → Prop} {a1 a2 : Value} {f : Bool}
/-- the zip's look at its own pair: it is held elsewhere, and the zip marks that -/
theorem own_out {Q : Bool → Shared → Prop} (hz : Out s.heap z TI TO T f) (hT : ∃ o, s.heap.get? T = some o)
    (hQ : ∀ h', Out h' z TI TO T true → Heap.SameBut z s.heap h' → Q false { s with heap := h' }) : wpAny (model prog w) A (Builtin.SmallTypes.ownedTupleIsFree (.ref z)) Q E s :=
  hT.elim fun _ t => PySem.wpAny_tupleHeld_zip hz t hQ
theorem body_out {Q : PySem.Fin → Shared → Prop} (S : ZipSep2 z TI TO i1 i2 fp1 fp2) (D1 : Draws prog w A i1 fp1 n1 P1 St1) (D2 : Draws prog w A i2 fp2 n2 P2 St2) (hz : Out s.heap z TI TO T f) (hT : ∃ o, s.heap.get? T = some o) (hI : IsTupOf2 s.heap TI (.ref i1) (.ref i2)) (st1 : St1 i s.heap) (st2 : St2 i s.heap) (l1 : i < n1) (l2 : i < n2)
    (hQ : ∀ x1 x2 h' tk, P1 i x1 → P2 i x2 → Out h' z TI TO T true → St1 (i + 1) h' → St2 (i + 1) h' → IsTupOf2 h' s.heap.objs.size x1 x2 → (∀ c o, c ≠ z → c ≠ i1 → c ≠ i2 → s.heap.get? c = some o → h'.get? c = some o) → Q (.done (.ret (.ref s.heap.objs.size))) { s with heap := h', toks := tk }) :
    wpAny (model prog w) A (Builtin.«zip.__next__» ⟨[.ref z], []⟩) Q E s := by
  have f2 : ∀ {R : Value → Shared → Prop}, R (.bool false) s → wpAny (model prog w) A (field (.ref z) 2) R E s := fun q => wpAny_field hz rfl rfl q
  have f3 : ∀ {R : Value → Shared → Prop}, R (.ref TI) s → wpAny (model prog w) A (field (.ref z) 3) R E s := fun q => wpAny_field hz rfl rfl q
  unfold Builtin.«zip.__next__»
  wp_walk using f2, f3, wpAny_seqItems hI rfl, own_out hz hT
  intro g0 hz0 b0
  have k1 := D1.over st1 b0 S.zf1
  have k2 := D2.over st2 b0 S.zf2
  have d1 : ∀ {R : Value → Shared → Prop}, (∀ x h' tk, P1 i x → St1 (i + 1) h' → Heap.SameBut i1 g0 h' → R x { s with heap := h', toks := tk }) → wpAny (model prog w) A (Builtin.SmallTypes.nextOf (.ref i1)) R E { s with heap := g0 } := fun k => D1.item i { s with heap := g0 } _ E l1 k1 k
  have d2 : ∀ {R : Value → Shared → Prop} (h : Heap) (tk : Nat), St2 i h → (∀ x h' tk, P2 i x → St2 (i + 1) h' → Heap.SameBut i2 h h' → R x { s with heap := h', toks := tk }) → wpAny (model prog w) A (Builtin.SmallTypes.nextOf (.ref i2)) R E { s with heap := h, toks := tk } :=
    fun h tk k2 k => D2.item i { s with heap := h, toks := tk } _ E l2 k2 k
  simp only [Bool.false_eq_true, if_false, ← Array.forIn_toList, List.forIn_cons, List.forIn_nil]
  wp_walk using d1
  intro x1 g1 t1 y1 m1 b1
  wp_walk using d2 g1 t1 (D2.over k2 b1 S.sep1_2)
  intro x2 g2 t2 y2 m2 b2
  wp_walk using wpAny_newTuple
  case hsz => exact (by decide : 2 ≤ sizeLine)
  have size : g2.objs.size = s.heap.objs.size := b2.1.trans (b1.1.trans b0.1)
  have still : ∀ c o, c ≠ i1 → c ≠ i2 → g0.get? c = some o → (g2.push { cls := .type "tuple", data := .seq #[x1, x2] }).get? c = some o := fun c o c1 c2 e => Heap.get?_push_of_some _ (b2.extBut _ _ c2 (b1.extBut _ _ c1 e))
  have made := Heap.get?_push_size g2 (o := { cls := .type "tuple", data := .seq #[x1, x2] }) rfl
  show Q (.done (.ret (.ref g2.objs.size))) _
  rw [size] at made ⊢
  exact hQ x1 x2 _ t2 y1 y2 (still _ _ S.zi1 S.zi2 hz0) (D1.frame _ _ _ (D1.over m1 b2 S.sep2_1) fun _ _ _ => Heap.get?_push_of_some _) (D2.frame _ _ _ m2 fun _ _ _ => Heap.get?_push_of_some _) made fun c o c0 c1 c2 e => still c o c1 c2 (b0.extBut _ _ c0 e)
/-- one more pair -/
theorem next_out {Q : Option Value → Shared → Prop} (S : ZipSep2 z TI TO i1 i2 fp1 fp2) (D1 : Draws prog w A.in1 i1 fp1 n1 P1 St1) (D2 : Draws prog w A.in1 i2 fp2 n2 P2 St2) (hz : Out s.heap z TI TO T f) (hT : ∃ o, s.heap.get? T = some o) (hI : IsTupOf2 s.heap TI (.ref i1) (.ref i2)) (st1 : St1 i s.heap) (st2 : St2 i s.heap) (l1 : i < n1) (l2 : i < n2)
    (hQ : ∀ x1 x2 h' tk, P1 i x1 → P2 i x2 → Out h' z TI TO T true → St1 (i + 1) h' → St2 (i + 1) h' → IsTupOf2 h' s.heap.objs.size x1 x2 → (∀ c o, c ≠ z → c ≠ i1 → c ≠ i2 → s.heap.get? c = some o → h'.get? c = some o) → Q (some (.ref s.heap.objs.size)) { s with heap := h', toks := tk }) :
    wpAny (model prog w) A (pyNext (.ref z)) Q E s := by
  have ty : s.TypeIs (.ref z) "zip" := ⟨_, hz, rfl⟩
  unfold pyNext
  refine wpAny_bind (wpAny_attempt (wpAny_callSpecial?_slot (name := Str.ofString "__next__") ty F.slot_zip_next (wpAny_call_entry F.slot_zip_next ty F.entry_zip_next
    (body_out S D1 D2 hz hT hI st1 st2 l1 l2 fun x1 x2 h' tk p1 p2 o m1 m2 t k => ⟨_, rfl, wpAny_pure (hQ x1 x2 h' tk p1 p2 o m1 m2 t k)⟩) (F.args_zip_next_1 _))))
/-- one of the two is at its end: the zip hands its end on -/
theorem body_end {Q : PySem.Fin → Shared → Prop} (S : ZipSep2 z TI TO i1 i2 fp1 fp2) (D1 : Draws prog w A i1 fp1 n1 P1 St1) (D2 : Draws prog w A i2 fp2 n2 P2 St2) (hz : Out s.heap z TI TO T f) (hT : ∃ o, s.heap.get? T = some o) (hI : IsTupOf2 s.heap TI (.ref i1) (.ref i2)) (st1 : St1 i s.heap) (st2 : St2 i s.heap) (l1 : i ≤ n1) (l2 : i ≤ n2) (le : i = n1 ∨ i = n2)
    (hE : ∀ (e : Addr) h' tk, (∃ o, h'.get? e = some o ∧ o.cls = .type "StopIteration") → (∀ c o, c ≠ z → c ≠ i1 → c ≠ i2 → s.heap.get? c = some o → h'.get? c = some o) → E (.ref e) { s with heap := h', toks := tk }) :
    wpAny (model prog w) A (Builtin.«zip.__next__» ⟨[.ref z], []⟩) Q E s := by
  have f2 : ∀ {R : Value → Shared → Prop}, R (.bool false) s → wpAny (model prog w) A (field (.ref z) 2) R E s := fun q => wpAny_field hz rfl rfl q
  have f3 : ∀ {R : Value → Shared → Prop}, R (.ref TI) s → wpAny (model prog w) A (field (.ref z) 3) R E s := fun q => wpAny_field hz rfl rfl q
  unfold Builtin.«zip.__next__»
  wp_walk using f2, f3, wpAny_seqItems hI rfl, own_out hz hT
  intro g0 hz0 b0
  have k1 := D1.over st1 b0 S.zf1
  have k2 := D2.over st2 b0 S.zf2
  simp only [Bool.false_eq_true, if_false, ← Array.forIn_toList, List.forIn_cons, List.forIn_nil]
  by_cases last : i = n1
  · have d1 : ∀ {R : Value → Shared → Prop}, wpAny (model prog w) A (Builtin.SmallTypes.nextOf (.ref i1)) R E { s with heap := g0 } :=
      fun {R} => D1.done { s with heap := g0 } R E (last ▸ k1) fun h' e b x => hE e h' s.toks x fun c o c0 c1 _ y => b _ _ c1 (b0.extBut _ _ c0 y)
    wp_walk using d1
  · have d1 : ∀ {R : Value → Shared → Prop}, (∀ x h' tk, P1 i x → St1 (i + 1) h' → Heap.SameBut i1 g0 h' → R x { s with heap := h', toks := tk }) → wpAny (model prog w) A (Builtin.SmallTypes.nextOf (.ref i1)) R E { s with heap := g0 } :=
      fun k => D1.item i { s with heap := g0 } _ E (by omega) k1 k
    wp_walk using d1
    intro x1 g1 t1 y1 m1 b1
    have d2 : ∀ {R : Value → Shared → Prop}, wpAny (model prog w) A (Builtin.SmallTypes.nextOf (.ref i2)) R E { s with heap := g1, toks := t1 } :=
      fun {R} => D2.done { s with heap := g1, toks := t1 } R E (le.resolve_left last ▸ D2.over k2 b1 S.sep1_2) fun h' e b x => hE e h' t1 x fun c o c0 c1 c2 y => b _ _ c2 (b1.extBut _ _ c1 (b0.extBut _ _ c0 y))
    wp_walk using d2
theorem end_out {Q : Option Value → Shared → Prop} (S : ZipSep2 z TI TO i1 i2 fp1 fp2) (D1 : Draws prog w A.in1 i1 fp1 n1 P1 St1) (D2 : Draws prog w A.in1 i2 fp2 n2 P2 St2) (hz : Out s.heap z TI TO T f) (hT : ∃ o, s.heap.get? T = some o) (hI : IsTupOf2 s.heap TI (.ref i1) (.ref i2)) (st1 : St1 i s.heap) (st2 : St2 i s.heap) (l1 : i ≤ n1) (l2 : i ≤ n2) (le : i = n1 ∨ i = n2)
    (hQ : ∀ h' tk, (∀ c o, c ≠ z → c ≠ i1 → c ≠ i2 → s.heap.get? c = some o → h'.get? c = some o) → Q none { s with heap := h', toks := tk }) :
    wpAny (model prog w) A (pyNext (.ref z)) Q E s := by
  have ty : s.TypeIs (.ref z) "zip" := ⟨_, hz, rfl⟩
  unfold pyNext
  refine wpAny_bind (wpAny_attempt (wpAny_callSpecial?_slot (name := Str.ofString "__next__") ty F.slot_zip_next (wpAny_call_entry F.slot_zip_next ty F.entry_zip_next
    (body_end S D1 D2 hz hT hI st1 st2 l1 l2 le fun e h' tk ⟨o, ho, hc⟩ k => ?_) (F.args_zip_next_1 _))))
  exact wpAny_bind (wpAny_isInstance (T := "StopIteration") (b := true) ⟨o, ho, hc⟩ isSubtype_stop (wpAny_pure (hQ h' tk k)))
/-- behind i pairs, which stand at as -/
structure At (z TI TO i1 i2 lo : Addr) (P1 P2 : Nat → Value → Prop) (St1 St2 : Nat → Heap → Prop) (h : Heap) (i : Nat) (as : List Addr) : Prop where
  own : (i = 0 ∧ IsZip h z TI TO .none ∧ ∃ a b, IsTupOf2 h TO a b) ∨ ∃ T f, Out h z TI TO T f ∧ T ∈ as
  ti : IsTupOf2 h TI (.ref i1) (.ref i2)
  s1 : St1 i h
  s2 : St2 i h
  len : as.length = i
  up : as.Pairwise (· < ·)
  lo_le : lo ≤ h.objs.size
  new : ∀ a ∈ as, lo ≤ a
  two : ∀ j a, as[j]? = some a → ∃ x y, IsTupOf2 h a x y ∧ P1 j x ∧ P2 j y
/-- how the cells lie -/
structure Far (z TI TO i1 i2 lo L : Addr) (fp1 fp2 : List Addr) : Prop where
  sep : ZipSep2 z TI TO i1 i2 fp1 fp2
  hz : z < lo
  hti : TI < lo
  hto : TO < lo
  ha : i1 < lo
  hb : i2 < lo
  hl : L < lo
  lz : L ≠ z
  lt : L ≠ TI
  lo_ : L ≠ TO
  l1 : L ∉ fp1
  l2 : L ∉ fp2
theorem At.grow {lo L : Addr} {h h1 h2 : Heap} {as : List Addr} {x y : Value} {T' : Addr} {f' : Bool} (fr : Far z TI TO i1 i2 lo L fp1 fp2) (D1 : Draws prog w A i1 fp1 n1 P1 St1) (D2 : Draws prog w A i2 fp2 n2 P2 St2) (g : At z TI TO i1 i2 lo P1 P2 St1 St2 h i as)
    (k1 : ∀ c o, c ≠ z → c ≠ TO → c ≠ i1 → c ≠ i2 → h.get? c = some o → h1.get? c = some o) (t : IsTupOf2 h1 h.objs.size x y) (o1 : Out h1 z TI TO T' f') (hT' : T' ∈ as ++ [h.objs.size]) (m1 : St1 (i + 1) h1) (m2 : St2 (i + 1) h1) (p1 : P1 i x) (p2 : P2 i y)
    (k2 : ∀ c o, c ≠ L → h1.get? c = some o → h2.get? c = some o) (sz : h1.objs.size ≤ h2.objs.size) : At z TI TO i1 i2 lo P1 P2 St1 St2 h2 (i + 1) (as ++ [h.objs.size]) := by
  have far : ∀ c, lo ≤ c → c ≠ z ∧ c ≠ TO ∧ c ≠ i1 ∧ c ≠ i2 ∧ c ≠ L := fun c hc => ⟨Nat.ne_of_gt (Nat.lt_of_lt_of_le fr.hz hc), Nat.ne_of_gt (Nat.lt_of_lt_of_le fr.hto hc), Nat.ne_of_gt (Nat.lt_of_lt_of_le fr.ha hc), Nat.ne_of_gt (Nat.lt_of_lt_of_le fr.hb hc), Nat.ne_of_gt (Nat.lt_of_lt_of_le fr.hl hc)⟩
  have t2 : IsTupOf2 h2 h.objs.size x y := k2 _ _ (far _ g.lo_le).2.2.2.2 t
  refine ⟨.inr ⟨T', f', k2 _ _ fr.lz.symm o1, hT'⟩, k2 _ _ fr.lt.symm (k1 _ _ fr.sep.TIz fr.sep.TITO fr.sep.TIi1 fr.sep.TIi2 g.ti), D1.frame _ _ _ m1 fun b hb o e => k2 b o (fun q => fr.l1 (q ▸ hb)) e, D2.frame _ _ _ m2 fun b hb o e => k2 b o (fun q => fr.l2 (q ▸ hb)) e, by rw [List.length_append, g.len]; rfl, ?_, ?_, fun a ha => ?_, fun j a hj => ?_⟩
  · refine List.pairwise_append.mpr ⟨g.up, by simp, fun a ha b hb => ?_⟩
    simp at hb
    subst hb
    obtain ⟨j, hj⟩ := List.mem_iff_getElem?.mp ha
    obtain ⟨x, y, q, _⟩ := g.two j a hj
    exact Heap.lt_size q
  · exact Nat.le_trans (Nat.le_of_lt (Nat.lt_of_le_of_lt g.lo_le (Heap.lt_size t))) sz
  · rcases List.mem_append.mp ha with q | q
    · exact g.new a q
    · simp at q; subst q; exact g.lo_le
  · rw [List.getElem?_append] at hj
    split at hj
    · obtain ⟨x', y', q, r⟩ := g.two j a hj
      obtain ⟨c1, c2, c3, c4, c5⟩ := far a (g.new a (List.mem_of_getElem? hj))
      exact ⟨x', y', k2 _ _ c5 (k1 _ _ c1 c2 c3 c4 q), r⟩
    · rename_i hge
      rw [g.len] at hge hj
      have hji : j = i := by
        have := (List.getElem?_eq_some_iff.mp hj).1
        simp at this
        omega
      subst hji
      rw [Nat.sub_self] at hj
      cases hj
      exact ⟨x, y, t2, p1, p2⟩
abbrev lst (xs : List Value) (c : Nat) : Obj := { cls := .type "list", dict := none, data := .seq xs.toArray c, slots := #[] }
theorem loop {R : Result → Shared → Prop} {lo L : Addr} {res : Value} (fr : Far z TI TO i1 i2 lo L fp1 fp2) (D1 : Draws prog w A.in1.in1 i1 fp1 n1 P1 St1) (D2 : Draws prog w A.in1.in1 i2 fp2 n2 P2 St2) (hn : min n1 n2 ≤ sizeLine) :
    ∀ (k i : Nat) (s : Shared) (as : List Addr) (c : Nat), i + k = min n1 n2 → At z TI TO i1 i2 lo P1 P2 St1 St2 s.heap i as → s.heap.get? L = some (lst (as.map .ref) c) →
      (∀ (h' : Heap) (tk : Nat) (bs : List Addr) (c' : Nat), (∀ b o, b < lo → b ≠ z → b ≠ TO → b ≠ i1 → b ≠ i2 → b ≠ L → s.heap.get? b = some o → h'.get? b = some o) → h'.get? L = some (lst (bs.map .ref) c') → bs.length = min n1 n2 → bs.Pairwise (· < ·) → (∀ a ∈ bs, lo ≤ a) →
        (∀ j a, bs[j]? = some a → ∃ x y, IsTupOf2 h' a x y ∧ P1 j x ∧ P2 j y) → R (.ok (.ret res)) { s with heap := h', toks := tk }) →
      codeAny (model prog w) A (.builtin "list.extend.loop" ⟨[.ref L, .ref z, res], []⟩) R s := by
  intro k
  induction k with
  | zero =>
    intro i s as c hk g hL hR
    refine codeAny_builtin F.entry_extend_loop ?_
    rw [Around.under_plainId F.plain_extend_loop _]
    show wpAny _ A.in1 (pyNext (.ref z) >>= _) _ _ s
    have le : i = n1 ∨ i = n2 := by omega
    have fin : ∀ h' tk, (∀ c o, c ≠ z → c ≠ TO → c ≠ i1 → c ≠ i2 → s.heap.get? c = some o → h'.get? c = some o) → R (.ok (.ret res)) { s with heap := h', toks := tk } := fun h' tk kp => by
      refine hR h' tk as c (fun b o _ c1 c2 c3 c4 _ e => kp b o c1 c2 c3 c4 e) (kp _ _ fr.lz fr.lo_ (fun q => fr.l1 (q ▸ fr.sep.mem1)) (fun q => fr.l2 (q ▸ fr.sep.mem2)) hL) (by rw [g.len]; exact hk) g.up g.new fun j a hj => ?_
      obtain ⟨x, y, q, r⟩ := g.two j a hj
      have la := g.new a (List.mem_of_getElem? hj)
      exact ⟨x, y, kp _ _ (Nat.ne_of_gt (Nat.lt_of_lt_of_le fr.hz la)) (Nat.ne_of_gt (Nat.lt_of_lt_of_le fr.hto la)) (Nat.ne_of_gt (Nat.lt_of_lt_of_le fr.ha la)) (Nat.ne_of_gt (Nat.lt_of_lt_of_le fr.hb la)) q, r⟩
    rcases g.own with ⟨_, hz, a, b, ho⟩ | ⟨T, f, hz, hT⟩
    · exact wpAny_bind (wpAny_pyNext_zipD2_end fr.sep D1 D2 hz g.ti ho g.s1 g.s2 (by omega) (by omega) le fun h' tk kp => wpAny_pure (fin h' tk kp))
    · obtain ⟨j, hj⟩ := List.mem_iff_getElem?.mp hT
      obtain ⟨x, y, q, _⟩ := g.two j T hj
      exact wpAny_bind (end_out fr.sep D1 D2 hz ⟨_, q⟩ g.ti g.s1 g.s2 (by omega) (by omega) le fun h' tk kp => wpAny_pure (fin h' tk fun c o c1 _ c3 c4 e => kp c o c1 c3 c4 e))
  | succ k ih =>
    intro i s as c hk g hL hR
    refine codeAny_builtin F.entry_extend_loop ?_
    rw [Around.under_plainId F.plain_extend_loop _]
    show wpAny _ A.in1 (pyNext (.ref z) >>= _) _ _ s
    have go : ∀ (x y : Value) (h1 : Heap) (tk : Nat) (T' : Addr) (f' : Bool), P1 i x → P2 i y → Out h1 z TI TO T' f' → T' ∈ as ++ [s.heap.objs.size] → St1 (i + 1) h1 → St2 (i + 1) h1 → IsTupOf2 h1 s.heap.objs.size x y → (∀ c o, c ≠ z → c ≠ TO → c ≠ i1 → c ≠ i2 → s.heap.get? c = some o → h1.get? c = some o) →
        wpAny (model prog w) A.in1 (updateSeq L (·.push (.ref s.heap.objs.size)) >>= fun _ => again (.builtin "list.extend.loop" ⟨[.ref L, .ref z, res], []⟩))
          (fun fin s' => match fin with | .done f => R (.ok f) s' | .again c' => c'.quiet = true ∧ codeAny (model prog w) A c' R s') (fun e s' => R (.error e) s') { s with heap := h1, toks := tk } := fun x y h1 tk T' f' p1 p2 o1 hT' m1 m2 t kp => by
      have hL1 : h1.get? L = some (lst (as.map .ref) c) := kp _ _ fr.lz fr.lo_ (fun q => fr.l1 (q ▸ fr.sep.mem1)) (fun q => fr.l2 (q ▸ fr.sep.mem2)) hL
      have la : (as.map Value.ref).toArray.size = i := by rw [List.size_toArray, List.length_map, g.len]
      have g2 := g.grow (h2 := h1.update L (Obj.mapSeq (·.push (.ref s.heap.objs.size)))) fr D1 D2 kp t o1 hT' m1 m2 p1 p2 (fun c o hc e => (Heap.get?_update_other _ _ (Ne.symm hc)).trans e) (Nat.le_of_eq (Heap.SameBut.update ..).1.symm)
      refine wpAny_bind (wpAny_updateSeq hL1 rfl (wpAny_pure ⟨plainId_quiet F.plain_extend_loop _, ih (i + 1) _ (as ++ [s.heap.objs.size]) (c + 1) (by omega) g2 ?_ fun h' tk' bs c' q1 q2 q3 q4 q5 q6 => ?_⟩) (by rw [la]; omega) (by rw [Array.size_push, la]; omega))
      · have := Heap.get?_update_self (Obj.mapSeq (·.push (Value.ref s.heap.objs.size))) hL1 rfl
        rw [this]
        simp [Obj.mapSeq]
      · refine hR h' tk' bs c' (fun b o b0 b1 b2 b3 b4 b5 e => q1 b o b0 b1 b2 b3 b4 b5 ((Heap.get?_update_other _ _ (Ne.symm b5)).trans (kp b o b1 b2 b3 b4 e))) q2 q3 q4 q5 q6
    rcases g.own with ⟨i0, hz, a, b, ho⟩ | ⟨T, f, hz, hT⟩
    · exact wpAny_bind (wpAny_pyNext_zipD2_item fr.sep D1 D2 hz g.ti ho g.s1 g.s2 (by omega) (by omega) fun x y h1 tk p1 p2 o1 _ m1 m2 t _ kp => go x y h1 tk _ false p1 p2 o1 (by simp) m1 m2 t kp)
    · obtain ⟨j, hj⟩ := List.mem_iff_getElem?.mp hT
      obtain ⟨x, y, q, _⟩ := g.two j T hj
      exact wpAny_bind (next_out fr.sep D1 D2 hz ⟨_, q⟩ g.ti g.s1 g.s2 (by omega) (by omega) fun x y h1 tk p1 p2 o1 m1 m2 t kp => go x y h1 tk _ true p1 p2 o1 (List.mem_append_left _ hT) m1 m2 t fun c o c1 _ c3 c4 e => kp c o c1 c3 c4 e)
/-- a list's cell is written twice and stands as before -/
theorem touch {L : Addr} {xs : List Value} {c : Nat} {Q : Unit → Shared → Prop} (hL : s.heap.get? L = some (lst xs c)) (hx : xs.length + 1 ≤ sizeLine) (hQ : ∀ h' c', h'.get? L = some (lst xs c') → Heap.SameBut L s.heap h' → Q () { s with heap := h' }) : wpAny (model prog w) A (Builtin.List.listTouch (.ref L)) Q E s := by
  show wpAny _ _ (updateSeq L (·.push .none) >>= fun _ => updateSeq L (·.pop)) _ _ s
  refine wpAny_bind (wpAny_updateSeq hL rfl ?_ (by rw [List.size_toArray]; omega) (by rw [Array.size_push, List.size_toArray]; omega))
  have h1 := Heap.get?_update_self (Obj.mapSeq (·.push Value.none)) hL rfl
  have e1 : Obj.mapSeq (·.push Value.none) (lst xs c) = lst (xs ++ [.none]) (c + 1) := by simp [Obj.mapSeq]
  rw [e1] at h1
  refine wpAny_updateSeq h1 rfl (hQ _ (c + 2) ?_ ⟨(Heap.SameBut.update ..).1.trans (Heap.SameBut.update ..).1, fun b hb => ?_⟩) (by rw [List.size_toArray, List.length_append]; simp; omega) (by rw [Array.size_pop, List.size_toArray, List.length_append]; simp; omega)
  · rw [Heap.get?_update_self (Obj.mapSeq (·.pop)) h1 rfl]
    simp [Obj.mapSeq]
  · rw [Heap.get?_update_other _ _ (Ne.symm hb), Heap.get?_update_other _ _ (Ne.symm hb)]
end
end LZ
end DN
/-! list(zip(a, b)) and dict(pairs) by data -/
namespace DN
open PySem PySem.Spec PyProof.Rows L2
open LamX (Tabs ExtN)
section
variable {X : Cx} {T : List (Addr × Str)} {W : WX}
def Pr (H : Hp) : List Addr → List (V × V) → Prop := Paired fun t q => H t = some (.tup [q.1, q.2])
end
/-! ### by data -/
theorem Nx.many {T : List (Addr × Str)} {F H H' : Hp} {N : List Addr} (z : Fz F H) (kp : ∀ b o, H b = some o → H' b = some o) (hn : ∀ a ∈ N, H a = none) (hs : ∀ a ∈ N, ∃ o, H' a = some o ∧ ∀ ps, o ≠ .tbl ps) : Nx T F H (fun a => if a ∈ N then H' a else F a) H' := by
  refine ⟨fun a o e => ?_, ⟨fun a o e => ?_, fun a ps e => ?_⟩, fun b u e _ => kp b u e, fun a o e => ?_, fun t => t.ext fun b u e => kp b u e⟩
  · have : a ∉ N := fun q => by have := z.sub _ _ e; rw [hn a q] at this; cases this
    show (if a ∈ N then H' a else F a) = some o
    rw [if_neg this]; exact e
  · have e : (if a ∈ N then H' a else F a) = some o := e
    split at e
    · exact e
    · exact kp _ _ (z.sub _ _ e)
  · have e : (if a ∈ N then H' a else F a) = some (.tbl ps) := e
    split at e
    · rename_i q
      obtain ⟨o, h1, h2⟩ := hs a q
      rw [h1] at e
      exact h2 ps (Option.some.inj e)
    · exact z.nt _ _ e
  · have e : (if a ∈ N then H' a else F a) = some o := e
    split at e
    · rename_i q
      exact .inr fun o' e' => by rw [hn a q] at e'; cases e'
    · exact .inl e
theorem Pr.all {H' : Hp} : ∀ {ts : List Addr} {qs : List (V × V)}, Pr H' ts qs → ∀ t ∈ ts, ∃ vs, H' t = some (.tup vs)
  | _, _, .nil, t, h => by cases h
  | _, _, .cons h1 h2, t, h => by
    rcases List.mem_cons.mp h with e | e
    · rw [e]; exact ⟨_, h1⟩
    · exact Pr.all h2 t e
section
variable {X : Cx} {T : List (Addr × Str)} {W : WX} {F0 G : Hp} {i : Nat}
end
/-! ### dict(pairs) -/
section
variable {X : Cx} {T : List (Addr × Str)} {W : WX} {F0 G : Hp} {i : Nat}
end
end DN
/-! M-mode where a token is out -/
namespace DN
open PySem PySem.Spec PyProof.Rows L2
open LamX (Tabs ExtN)
section
variable {X : Cx} {T : List (Addr × Str)} {W : WX} {F0 G : Hp} {i : Nat}
end
/-! x = e (lent), then f(state, .. x ..) -/
section
variable {X : Cx} {T : List (Addr × Str)} {W : WX} {F0 G : Hp} {i : Nat}
end
end DN
/-! a law whose body goes over to M-mode; evaluating M-mode -/
namespace DN
open PySem PySem.Spec PyProof.Rows L2
open LamX (Tabs ExtN)
/-! ### evaluating -/
section
variable {i n : Nat} {ρ : Rho} {m : MSt} {p : Addr}
end
theorem bt_dict : bootBuiltins "dict" = some (.type "dict") := by decide +kernel
end DN
/-! a tuple taken once, or not at all -/
namespace DN
open PySem PySem.Spec PyProof.Rows L2
open LamX (Tabs ExtN)
/-- t * 1 is t itself -/
theorem mul_one_meets {l : Addr} {ob : Obj} {items : Array Value} {n : Nat} {u : Tok} (hc : ob.cls = .type "tuple") (hd : ob.data = .seq items n) : Meets (Builtin.«tuple.__mul__» ⟨[.ref l, .int 1 u], []⟩) (fun _ R s => s.heap.get? l = some ob ∧ R (.ok (.ret (.ref l))) s) :=
  .of_wp fun prog w A R s h => by
    obtain ⟨hp, g, d, tk, os⟩ := s
    obtain ⟨hl, h⟩ := h
    obtain ⟨c, dc, dat, sl⟩ := ob
    simp only at hc hd
    subst hc hd
    have f1 := AutoSeq1.idx_int
    wp_walk using wpAny_loadPart' hl
    exact ⟨_, rfl, h⟩
/-- t * 0 is a tuple of nothing -/
theorem mul_nought_meets {l : Addr} {ob : Obj} {items : Array Value} {n : Nat} {u : Tok} (hc : ob.cls = .type "tuple") (hd : ob.data = .seq items n) (hi : items.isEmpty = false) : Meets (Builtin.«tuple.__mul__» ⟨[.ref l, .int 0 u], []⟩) (fun _ R s => s.heap.get? l = some ob ∧ R (.ok (.ret (.ref s.heap.objs.size))) { s with heap := s.heap.push { cls := .type "tuple", data := .seq #[] } }) :=
  .of_wp fun prog w A R s h => by
    obtain ⟨hp, g, d, tk, os⟩ := s
    obtain ⟨hl, h⟩ := h
    obtain ⟨c, dc, dat, sl⟩ := ob
    simp only at hc hd
    subst hc hd
    have f1 := AutoSeq1.idx_int
    have e1 : (items.isEmpty || (0 : Int) == 1) = false := by rw [hi]; rfl
    wp_walk using wpAny_loadPart' hl
    exact ⟨_, rfl, h⟩
def mul01D : D → D → Option D
  | .tup (x :: xs), .int k => if k = 1 then some (.tup (x :: xs)) else if k = 0 then some (.tup []) else none
  | _, _ => none
section
variable {X : Cx} {T : List (Addr × Str)} {W : WX}
theorem o_mul01 : OpR X (binaryOp .Mult) (rD2 X.K T mul01D) := by
  intro pins s σ H x y v u Q I rx ry h
  obtain ⟨Fz', d, e, z, hz, rd, re, hG, q⟩ := h
  unfold mul01D at hG
  split at hG
  · rename_i d0 ds k
    cases rd with
    | @tup a xs _ h1 r1 =>
      cases re
      cases rx
      obtain ⟨t, rfl⟩ := ry
      obtain ⟨its, r, ⟨⟨cls, dd, data, sl⟩, ho, hc, n, hd⟩, hs⟩ := I.tuple (hz.sub.st h1)
      simp only at hc hd
      subst hc hd
      have hi : its.toArray.isEmpty = false := by
        cases r1 with
        | cons _ _ =>
          cases r with
          | cons _ _ => rfl
      split at hG
      · rename_i hk
        subst hk
        cases hG
        refine wpAny_binaryOp_repeat_ref (T := "tuple") (U := "int") (by decide) ⟨_, ho, rfl⟩ (fun s' => typeIs_int s' 1 t) noFill_tuple_mul F.fills_int_mul F.slot_int_rmul repeat_tuple F.slot_int_index.lookup
          (call_meets F.slot_int_rmul (typeIs_int s 1 t) F.entry_int_rmul (F.args_int_rmul_2 _ _) (int_rmul_tuple 1 t a its.toArray n dd sl) ⟨ho, rfl, ⟨_, ho, rfl⟩, call_meets F.slot_tuple_mul ⟨_, ho, rfl⟩ F.entry_tuple_mul (F.args_tuple_mul_2 _ _) (mul_one_meets rfl rfl) ⟨ho, ?_⟩⟩)
        exact ⟨.ref a, H, I, rfl, done0 hz q (.tup h1 r1)⟩
      · split at hG
        · rename_i hk
          subst hk
          cases hG
          refine wpAny_binaryOp_repeat_ref (T := "tuple") (U := "int") (by decide) ⟨_, ho, rfl⟩ (fun s' => typeIs_int s' 0 t) noFill_tuple_mul F.fills_int_mul F.slot_int_rmul repeat_tuple F.slot_int_index.lookup
            (call_meets F.slot_int_rmul (typeIs_int s 0 t) F.entry_int_rmul (F.args_int_rmul_2 _ _) (int_rmul_tuple 0 t a its.toArray n dd sl) ⟨ho, rfl, ⟨_, ho, rfl⟩, call_meets F.slot_tuple_mul ⟨_, ho, rfl⟩ F.entry_tuple_mul (F.args_tuple_mul_2 _ _) (mul_nought_meets rfl rfl hi) ⟨ho, ?_⟩⟩)
          have hf := I.hok.fresh (Nat.le_refl s.heap.objs.size)
          exact ⟨.ref s.heap.objs.size, _, I.laid (t' := s.toks) (o := .tup []) (fun b ob q => Heap.get?_push_of_some _ q) (Nat.le_refl _) ⟨Nat.zero_le _, [], .nil, IsTup.new _ _⟩, rfl, donep hz hf ntT q (rp_tup hz hf .nil)⟩
        · cases hG
  · cases hG
end
end DN
/-! enumerate of a tuple -/
namespace DN
open PySem PySem.Spec PyProof.Rows L2
/-! .. as data -/
open LamX (Tabs ExtN)
section
variable {X : Cx} {T : List (Addr × Str)} {W : WX}
end
end DN
/-! a lambda with one parameter, handed to a def: within the call it belongs to the base -/
namespace DN
open PySem PySem.Spec PyProof.Rows L2
open LamX (Tabs ExtN CodeO TabB)
open NdefX (NF NScope CellsAt Caps envF ncx startF)

/-! ### a part of a heap -/
open Classical in
noncomputable def only (h : Heap) (S : Addr → Prop) : Heap := ⟨h.objs.mapIdx fun i o => if S i then o else { o with data := .freed }, h.life⟩
/-! ### less is frozen -/
def Most (F G : Hp) : Prop := ∀ a o, F a = some o → (∀ φ, o ≠ .ext φ) → G a = some o
theorem Most.rd {F G : Hp} (m : Most F G) {a : Addr} {u : HO} (hu : ∀ φ, u ≠ .ext φ) (h : Rd F a u) : Rd G a u := by
  rcases h with h | ⟨o, h⟩
  · exact .inl (m _ _ h hu)
  · exact .inr ⟨o, m _ _ h fun φ z => by cases z⟩
mutual
theorem Rp.less {K : PySem.W.Frag} {F G : Hp} (m : Most F G) : ∀ {v : V} {d : D}, Rp K F v d → Rp K G v d
  | _, _, .non => .non
  | _, _, .bl b => .bl b
  | _, _, .int i => .int i
  | _, _, .str x => .str x
  | _, _, .fn x => .fn x
  | _, _, .ty n => .ty n
  | _, _, .lst h t => .lst (m _ _ h fun φ z => by cases z) (RpAll.less m t)
  | _, _, .tup h t => .tup (h.elim (fun h => .inl (m.rd (fun φ z => by cases z) h)) .inr) (RpAll.less m t)
  | _, _, .dK h => .dK (m _ _ h fun φ z => by cases z)
  | _, _, .dT ⟨od, h⟩ => .dT ⟨od, m _ _ h fun φ z => by cases z⟩
  | _, _, .arr h => .arr (h.elim (fun h => .inl (m.rd (fun φ z => by cases z) h)) .inr)
  | _, _, .pro ⟨o, h1, h2, h3⟩ => .pro ⟨o, h1, h2, m _ _ h3 fun φ z => by cases z⟩
  | _, _, .adr a => .adr a
  | _, _, .tab h1 h2 h3 t => .tab h1 (m _ _ h2 fun φ z => by cases z) h3 (RpAll.less m t)
  | _, _, .pw h => .pw (m _ _ h fun φ z => by cases z)
  | _, _, .frm ⟨o, h1, h2, h3⟩ t => .frm ⟨o, h1, h2, m _ _ h3 fun φ z => by cases z⟩ (RpAll.less m t)
theorem RpAll.less {K : PySem.W.Frag} {F G : Hp} (m : Most F G) : ∀ {vs : List V} {ds : List D}, RpAll K F vs ds → RpAll K G vs ds
  | _, _, .nil => .nil
  | _, _, .cons h t => .cons (Rp.less m h) (RpAll.less m t)
end
/-! ### the lambda in the base -/
structure LamB (base : Heap) (f c : Addr) (q : Str) (params : Arguments) (body : Expr) (scope : Scope) (cl : List (Str × Addr)) (y : Str) (n : Int) : Prop where
  fn : ∃ pm ctv, base.get? f = some (PySem.W.kla_obj "<lambda>" q params body scope cl pm c ctv)
  code : base.CodeRec (.ref c) q
  cells : ∀ z a, cl.lookup z = some a → ∃ v, base.IsCell a v
  inj : ∀ z z' a, cl.lookup z = some a → cl.lookup z' = some a → z = z'
  val : ∃ a t, cl.lookup y = some a ∧ base.IsCell a (some (.int n t))
theorem LamB.at {base h : Heap} {H : Hp} {f c : Addr} {q : Str} {params : Arguments} {body : Expr} {scope : Scope} {cl : List (Str × Addr)} {y : Str} {n : Int} (B : LamB base f c q params body scope cl y n) (k : ∀ b o, base.get? b = some o → h.get? b = some o ∧ H b = none) :
    CellsAt cl [y] [some (.int n)] h H := by
  refine ⟨rfl, fun z a e => ?_, B.inj, fun i z e => ?_⟩
  · obtain ⟨v, o, ho, hd⟩ := B.cells z a e
    exact ⟨(k _ _ ho).2, v, o, (k _ _ ho).1, hd⟩
  · cases i with
    | zero =>
      cases e
      obtain ⟨a, t, e1, o, ho, hd⟩ := B.val
      refine ⟨a, e1, fun v hv => ?_⟩
      cases hv
      exact ⟨.int n t, ⟨t, rfl⟩, o, (k _ _ ho).1, hd⟩
    | succ i => simp at e
/-! ### the call that hands it over -/
section
variable {K : PySem.W.Frag} {P0 : Program} {w : World} {q : Str} {F H H1 H' F' : Hp} {c P : Addr} {h h' : Heap}
end
end DN
/-! R-mode: one slot holds a reader (an instance with the fields text, at), which calls change -/
namespace DN
open PySem PySem.Spec PyProof.Rows L2
open LamX (Tabs ExtN)

abbrev RSt := Str × Int
inductive RR (α : Type) where
  | ok (a : α) (m : RSt) | ex (n : Str) | bad
def RR.bind {α β : Type} : RR α → (α → RSt → RR β) → RR β
  | .ok a m, f => f a m
  | .ex n, _ => .ex n
  | .bad, _ => .bad
def rdO (K : PySem.W.Frag) (dx : Addr) (m : RSt) : HO := .ins (He.ga K "Reader") dx [("text", .str m.1), ("at", .int m.2)]
def RdAt (K : PySem.W.Frag) (H : Hp) (p : Addr) (m : RSt) : Prop := ∃ dx, H p = some (rdO K dx m)
theorem rdO_nt {K : PySem.W.Frag} {dx : Addr} {m : RSt} : ∀ ps, rdO K dx m ≠ .tbl ps := fun ps z => by unfold rdO at z; cases z
theorem rdO_tup {K : PySem.W.Frag} {dx : Addr} {m : RSt} : ∀ xs, rdO K dx m ≠ .tup xs := fun ps z => by unfold rdO at z; cases z
/-- H without p -/
def mask (H : Hp) (p : Addr) : Hp := fun b => if b = p then none else H b
theorem mask_of {H : Hp} {p b : Addr} (h : b ≠ p) : mask H p b = H b := if_neg h
structure Rg (K : PySem.W.Frag) (T : List (Addr × Str)) (F0 G F H : Hp) (σ : L2.St) (ρ : Rho) (i : Nat) (p : Addr) (m : RSt) : Prop where
  at_ : At K T F H σ ρ
  nx : Nx T F0 G F H
  no : ∀ (j : Nat) (d : D), ρ[j]? ≠ some (En.o d)
  me : σ[i]? = some (some (.ref p))
  st : RdAt K H p m
  fF : F p = none
  fG : ∀ o, G p = some o → ∃ ps, o = .tbl ps
def aftR {α β : Type} (R : Hp → α → β → Prop) (K : PySem.W.Frag) (T : List (Addr × Str)) (E : XK) (F0 G F : Hp) (i : Nat) (σ : L2.St) (ρ : Rho) (p : Addr) (Q : α → Hp → Prop) : RR β → Prop
  | .ok b m => ∀ a F' H', Rg K T F0 G F' H' σ ρ i p m → Sub F F' → R F' a b → Q a H'
  | .ex n => ∀ F' H', Nx T F0 G F' H' → Tabs T H' → Sub F F' → E (.ref (He.ga K n)) none H'
  | .bad => False
section
variable {K : PySem.W.Frag} {T : List (Addr × Str)} {E : XK} {F0 G F H F1 H1 : Hp} {σ : L2.St} {ρ : Rho} {i : Nat} {p : Addr} {m : RSt}
theorem Rg.step (g : Rg K T F0 G F H σ ρ i p m) (n : Nx T F H F1 H1) : Rg K T F0 G F1 H1 σ ρ i p m := by
  obtain ⟨dx, h⟩ := g.st
  exact ⟨g.at_.nx n, g.nx.trans n, g.no, g.me, ⟨dx, n.keep h rdO_nt⟩, n.out h rdO_nt g.fF rdO_tup, g.fG⟩
theorem aftR.mono {α β : Type} {R : Hp → α → β → Prop} {Q : α → Hp → Prop} {r : RR β} (e : Sub F F1) (h : aftR R K T E F0 G F i σ ρ p Q r) : aftR R K T E F0 G F1 i σ ρ p Q r := by
  cases r with
  | ok b m => exact fun a F' H' g s => h a F' H' g (e.trans s)
  | ex n => exact fun F' H' g t s => h F' H' g t (e.trans s)
  | bad => exact h
theorem aftR.bind {α β γ δ : Type} {R : Hp → α → β → Prop} {S : Hp → γ → δ → Prop} {Q : γ → Hp → Prop} {r : RR β} {k : β → RSt → RR δ} (h : aftR S K T E F0 G F i σ ρ p Q (r.bind k)) :
    aftR R K T E F0 G F i σ ρ p (fun a H1 => ∃ b m1 F1, Sub F F1 ∧ Rg K T F0 G F1 H1 σ ρ i p m1 ∧ R F1 a b ∧ aftR S K T E F0 G F1 i σ ρ p Q (k b m1)) r := by
  cases r with
  | ok b m => exact fun a F2 H2 g s ra => ⟨b, m, F2, s, g, ra, aftR.mono s h⟩
  | ex n => exact h
  | bad => exact h
theorem aftR.imp {α β : Type} {R : Hp → α → β → Prop} {Q Q' : α → Hp → Prop} {r : RR β} (h : aftR R K T E F0 G F i σ ρ p Q r) (hq : ∀ a H', Q a H' → Q' a H') : aftR R K T E F0 G F i σ ρ p Q' r := by
  cases r with
  | ok b m => exact fun a F' H' g s ra => hq a H' (h a F' H' g s ra)
  | ex n => exact h
  | bad => exact h
end
section
variable {X : Cx} {T : List (Addr × Str)} {E : XK} {F0 G : Hp} {i : Nat}
end
/-! ### statements -/
inductive SRR where
  | nx (ρ : Rho) (m : RSt) | rt (d : D) (m : RSt) | ex (n : Str) | bad
def bindRS {α : Type} (r : RR α) (k : α → RSt → SRR) : SRR := match r with
  | .ok a m => k a m
  | .ex n => .ex n
  | .bad => .bad
def aftRS (K : PySem.W.Frag) (T : List (Addr × Str)) (E : XK) (F0 G F : Hp) (i : Nat) (p : Addr) (Z : Ends) : SRR → Prop
  | .nx ρ m => ∀ σ F' H', Rg K T F0 G F' H' σ ρ i p m → Sub F F' → Z.nx σ H'
  | .rt d m => ∀ v F' H', Nx T F0 G F' H' → RdAt K H' p m → F' p = none → Rp K F' v d → Z.rt v H'
  | .ex n => ∀ F' H', Nx T F0 G F' H' → Tabs T H' → Sub F F' → E (.ref (He.ga K n)) none H'
  | .bad => False
section
variable {K : PySem.W.Frag} {T : List (Addr × Str)} {E : XK} {F0 G F H F1 H1 : Hp} {σ : L2.St} {ρ : Rho} {i : Nat} {p : Addr} {m : RSt} {Z : Ends}
theorem aftRS.mono {r : SRR} (e : Sub F F1) (h : aftRS K T E F0 G F i p Z r) : aftRS K T E F0 G F1 i p Z r := by
  cases r with
  | nx ρ m => exact fun σ F' H' g s => h σ F' H' g (e.trans s)
  | rt d m => exact h
  | ex n => exact fun F' H' g t s => h F' H' g t (e.trans s)
  | bad => exact h
theorem aftRS.bind {α β : Type} {R : Hp → α → β → Prop} {r : RR β} {k : β → RSt → SRR} (h : aftRS K T E F0 G F i p Z (bindRS r k)) :
    aftR R K T E F0 G F i σ ρ p (fun a H1 => ∃ b m1 F1, Sub F F1 ∧ Rg K T F0 G F1 H1 σ ρ i p m1 ∧ R F1 a b ∧ aftRS K T E F0 G F1 i p Z (k b m1)) r := by
  cases r with
  | ok b m => exact fun a F2 H2 g s ra => ⟨b, m, F2, s, g, ra, aftRS.mono s h⟩
  | ex n => exact h
  | bad => exact h
end
section
variable {X : Cx} {T : List (Addr × Str)} {E : XK} {F0 G : Hp} {i : Nat}
theorem Rg.put {K : PySem.W.Frag} {F H : Hp} {σ : L2.St} {ρ : Rho} {p : Addr} {m : RSt} {j : Nat} {v : V} {d : D} (g : Rg K T F0 G F H σ ρ i p m) (hj : j ≠ i) (r : Rp K F v d) : Rg K T F0 G F H (σ.set j (some v)) (ρ.set j (.z d)) i p m := by
  refine ⟨⟨g.at_.z, g.at_.t, g.at_.r.set r⟩, g.nx, fun k d' e => ?_, ?_, g.st, g.fF, g.fG⟩
  · rw [List.getElem?_set] at e
    split at e
    · split at e <;> cases e
    · exact g.no k d' e
  · rw [List.getElem?_set, if_neg hj]
    exact g.me
/-! self.at = e -/
theorem rdO_code {K : PySem.W.Frag} {dx a : Addr} {m : RSt} : ∀ q, rdO K dx m ≠ LamX.CodeO a q := fun q z => by unfold rdO LamX.CodeO at z; cases z
end
/-! ### methods -/
section
variable {K : PySem.W.Frag} {T : List (Addr × Str)} {E : XK} {F0 G F H F1 H1 : Hp} {σ : L2.St} {ρ : Rho} {i : Nat} {p : Addr} {m : RSt}
theorem mask_tabs (h : RdAt K H p m) (t : Tabs T H) : Tabs T (mask H p) := fun q hq => by
  obtain ⟨dx, h⟩ := h
  obtain ⟨ps, k1, k2, k3⟩ := t q hq
  refine ⟨ps, by rw [mask_of fun z => by rw [z, h] at k1; exact rdO_nt ps (Option.some.inj k1)]; exact k1, k2, fun pos cv hc => ?_⟩
  obtain ⟨c, e1, e2⟩ := k3 pos cv hc
  exact ⟨c, e1, by rw [mask_of fun z => by rw [z, h] at e2; exact rdO_code _ (Option.some.inj e2)]; exact e2⟩
/-- a call's changes behind what was there -/
theorem Nx.over (n1 : Nx T F0 G F H) (fG : ∀ o, G p = some o → ∃ ps, o = .tbl ps) (st : RdAt K H p m) (n2 : Nx T F (mask H p) F1 H1) : Nx T F0 G F1 H1 := by
  refine ⟨n1.f.trans n2.f, n2.z, fun b o e nt => ?_, fun a o e => ?_, fun t => n2.tab (mask_tabs st (n1.tab t))⟩
  · refine n2.h b o ?_ nt
    rw [mask_of fun z => by
      rw [z] at e
      obtain ⟨ps, w⟩ := fG o e
      exact nt ps w]
    exact n1.h b o e nt
  · rcases n2.new a o e with q | q
    · exact n1.new a o q
    · refine .inr fun o' e' => ?_
      by_cases w : ∃ ps, o' = .tbl ps
      · exact .inl w
      · refine q o' ?_
        rw [mask_of fun z => by
          rw [z] at e'
          exact w (fG o' e')]
        exact n1.h a o' e' fun ps z => w ⟨ps, z⟩
def spR (K : PySem.W.Frag) (T : List (Addr × Str)) (n : Nat) (den : RSt → List D → RR D) : Sp := fun vs H Q E => ∃ F p m ws ds, vs = .ref p :: ws ∧ Fz F H ∧ Tabs T H ∧ RpAll K F ws ds ∧ ds.length = n ∧ RdAt K H p m ∧ F p = none ∧
  (match den m ds with
  | .ok d m' => ∀ v F' H', Nx T F (mask H p) F' H' → RdAt K H' p m' → F' p = none → Rp K F' v d → Q v H'
  | .ex x => ∀ F' H', Nx T F (mask H p) F' H' → Tabs T H' → E (.ref (He.ga K x)) none H'
  | .bad => False)
structure OkR (P : Program) (w : World) (K : PySem.W.Frag) (mg : Str → Option Value) (base : Heap) (T : List (Addr × Str)) (k : Nat) (x : Str) (n : Nat) (den : RSt → List D → RR D) : Prop where
  ex : ∃ fd ps, FnOk P w K mg base (L2.CX P w) k (He.ma K (He.ga K "Reader") x) fd ps (spR K T n den) ∧ Binds K fd ps []
  mt : Meth K (He.ga K "Reader") x (He.ma K (He.ga K "Reader") x)
end
section
variable {X : Cx} {T : List (Addr × Str)} {E : XK} {F0 G : Hp} {i : Nat}
end
/-! ### a new reader -/
section
variable {X : Cx} {T : List (Addr × Str)} {E : XK} {F0 H0 : Hp}
end
end DN
/-! books: dicts whose keys are tuples of ints -/
namespace DN
open PySem PySem.Spec PyProof.Rows L2
open LamX (Tabs ExtN)
/-- a tuple that stands there is taken over -/
theorem Nx.adopt {T : List (Addr × Str)} {F H : Hp} {q : Addr} {xs : List V} (z : Fz F H) (h : H q = some (.tup xs)) : Nx T F H (upd F q (.tup xs)) H := by
  refine ⟨fun a o e => ?_, ⟨fun a o e => ?_, fun a ps e => ?_⟩, ExtN.refl H, fun a o e => ?_, fun t => t⟩
  · by_cases ha : a = q
    · subst ha
      have := z.sub _ _ e
      rw [h] at this; cases this
      exact upd_same
    · rw [upd_ne ha]; exact e
  · by_cases ha : a = q
    · subst ha; rw [upd_same] at e; cases e; exact h
    · rw [upd_ne ha] at e; exact z.sub _ _ e
  · by_cases ha : a = q
    · subst ha; rw [upd_same] at e; cases e
    · rw [upd_ne ha] at e; exact z.nt _ _ e
  · by_cases ha : a = q
    · subst ha
      exact .inr fun o' e' => by rw [h] at e'; cases e'; exact .inr ⟨_, rfl⟩
    · rw [upd_ne ha] at e; exact .inl e
def kI (ks : List Int) : List Key := ks.map Sum.inl
theorem kI_V (ks : List Int) : (kI ks).map kV = ks.map V.int := by
  unfold kI
  rw [List.map_map]
  rfl
def intsOf : List Key → Option (List Int)
  | [] => some []
  | .inl i :: r => (intsOf r).map fun l => i :: l
  | _ => none
theorem intsOf_ok : ∀ {k : List Key} {l : List Int}, intsOf k = some l → k = kI l
  | [], l, h => by cases h; rfl
  | .inl i :: r, l, h => by
    obtain ⟨l', h1, h2⟩ := Option.map_eq_some_iff.mp h
    subst h2
    rw [intsOf_ok h1]
    rfl
  | .inr _ :: _, l, h => by cases h
theorem intsOf_kI : ∀ l : List Int, intsOf (kI l) = some l
  | [] => rfl
  | i :: l => by
    show (intsOf (kI l)).map _ = _
    rw [intsOf_kI l]; rfl
def keysD : List (List Key × V) → Option (List D)
  | [] => some []
  | q :: r => (intsOf q.1).bind fun l => (keysD r).map fun ds => .pw l :: ds
theorem keysD_get : ∀ {kvs : List (List Key × V)} {ds : List D} {i : Nat} {d : D}, keysD kvs = some ds → ds[i]? = some d → ∃ l v, kvs[i]? = some (kI l, v) ∧ d = .pw l
  | [], ds, i, d, h, e => by cases h; simp at e
  | q :: r, ds, i, d, h, e => by
    obtain ⟨l, h1, h2⟩ := Option.bind_eq_some_iff.mp h
    obtain ⟨ds', h3, h4⟩ := Option.map_eq_some_iff.mp h2
    subst h4
    cases i with
    | zero =>
      simp at e; subst e
      exact ⟨l, q.2, by rw [← intsOf_ok h1]; rfl, rfl⟩
    | succ i =>
      obtain ⟨l', v, e1, e2⟩ := keysD_get h3 (by simpa using e)
      exact ⟨l', v, by simpa using e1, e2⟩
theorem keysD_len : ∀ {kvs : List (List Key × V)} {ds : List D}, keysD kvs = some ds → ds.length = kvs.length
  | [], ds, h => by cases h; rfl
  | q :: r, ds, h => by
    obtain ⟨l, h1, h2⟩ := Option.bind_eq_some_iff.mp h
    obtain ⟨ds', h3, h4⟩ := Option.map_eq_some_iff.mp h2
    subst h4
    rw [List.length_cons, List.length_cons, keysD_len h3]
def itemsB (f : Rho → Res D) : Rho → Res (List D) := fun ρ => (f ρ).bind fun d => match d with
  | .dT kvs => ofO (keysD kvs)
  | _ => .bad
def vInt : V → Option D
  | .int i => some (.int i)
  | _ => none
def getT : D → D → Option D
  | .dT kvs, .pw ks => (valV kvs (kI ks)).bind vInt
  | _, _ => none
theorem vInt_ok {K : PySem.W.Frag} {F : Hp} {v : V} {d : D} (h : vInt v = some d) : Rp K F v d := by
  unfold vInt at h
  split at h
  · cases h; exact .int _
  · cases h
section
variable {X : Cx} {T : List (Addr × Str)} {W : WX} {F0 H0 : Hp}
theorem walks_keys {K : PySem.W.Frag} {F : Hp} {d : Addr} {od : Obj} {kvs : List (List Key × V)} {ds : List D} (h : F d = some (.frz od (.dT kvs))) (hk : keysD kvs = some ds) : Walks K T F (Itkt d od kvs) ds := fun i F' H sb z => by
  have hd : H d = some (.frz od (.dT kvs)) := z.sub _ _ (sb _ _ h)
  refine ⟨fun e he => ?_, fun hle => ⟨hd, by rw [← keysD_len hk]; exact hle⟩⟩
  obtain ⟨l, v, e1, rfl⟩ := keysD_get hk he
  refine ⟨⟨hd, (List.getElem?_eq_some_iff.mp e1).1⟩, fun x H' y => ?_⟩
  obtain ⟨rfl, k, v', q, e2, rfl, e3⟩ := y
  rw [e1] at e2
  cases e2
  rw [kI_V] at e3
  exact ⟨_, Nx.adopt z e3, .pw upd_same⟩
theorem i_keys {tg e : Expr} {f : Rho → Res D} (hc : X.calm = true) (h : DE X T W e f) : DI X T W tg e (itemsB f) :=
  (pi_keys h).to fun σ H R ⟨ρ, F, a, h⟩ => by
    refine ⟨ρ, F, a, (aft.bind (R := Rp X.K) h).imp fun _ _ v F1' H1 _ _ q => ?_⟩
    obtain ⟨d, F1, _, n, rv, q⟩ := q
    cases rv with
    | @dT a kvs h1 =>
      obtain ⟨od, h1⟩ := h1
      obtain ⟨ds, hd, q⟩ := ofO_ok (show aft (fun F J ds => Walks X.K T F J ds) X.K T W σ F1 H1 R (ofO (keysD kvs)) from q)
      exact ⟨_, od, rfl, .inr ⟨kvs, n.z.sub _ _ h1, q _ F1 H1 (Nx.refl n.z) (walks_keys h1 hd)⟩⟩
    | _ => exact q.elim
/-- b[k] of a frozen one -/
theorem e_getT {o k : Expr} {pos : Pos} {f fk : Rho → Res D} (hu : X.A.units + 1 < cLine) (ho : DE X T W o f) (hk : DE X T W k fk) (hs : NoSl k := by exact fun _ _ => rfl) : DE X T W (.Subscript o k pos) (bop getT f fk) :=
  (pe_dget hu ho hk hs).to fun σ H Q ⟨ρ, F, a, h⟩ => by
    refine ⟨ρ, F, a, (aft.bind (R := Rp X.K) h).imp fun _ _ v F1' H1 _ _ q => ?_⟩
    obtain ⟨d, F1, _, n, rv, q⟩ := q
    refine ⟨ρ, F1, a.nx n, (aft.bind (R := Rp X.K) q).imp fun _ _ w F2' H2 _ _ q => ?_⟩
    obtain ⟨k', F2, _, n2, rk, q⟩ := q
    obtain ⟨z, hz, q'⟩ := ofO_ok (show aft (Rp X.K) X.K T W σ F2 H2 Q (ofO (getT d k')) from q)
    cases rv with
    | @dT a' kvs h1 =>
      obtain ⟨od, h1⟩ := h1
      cases rk with
      | @pw b ks h2 =>
        have hz : (valV kvs (kI ks)).bind vInt = some z := hz
        obtain ⟨v0, e1, e2⟩ := Option.bind_eq_some_iff.mp hz
        exact ⟨a', v0, rfl, .inr ⟨kvs, kI ks, b, .inr ⟨od, n2.z.sub _ _ (n2.f _ _ h1)⟩, rfl, by rw [kI_V]; exact n2.z.sub _ _ h2, e1.symm⟩, q' v0 F2 H2 (Nx.refl n2.z) (vInt_ok e2)⟩
      | _ => cases hz
    | _ => cases hz
/-! ### the frame's own -/
def ownT (i : Nat) (ρ : Rho) : Res (List (List Key × V)) := match ρ[i]? with
  | some (.o (.dT kvs)) => .ok kvs
  | _ => .bad
theorem ownT_ok {i : Nat} {ρ : Rho} {kvs : List (List Key × V)} (h : ownT i ρ = .ok kvs) : ρ[i]? = some (.o (.dT kvs)) := by
  unfold ownT at h
  split at h
  · rename_i e; cases h; exact e
  · cases h
theorem ownT_nex {i : Nat} {ρ : Rho} {m : Str} (h : ownT i ρ = .ex m) : False := by
  unfold ownT at h
  split at h <;> cases h
theorem ownT_at {K : PySem.W.Frag} {F H : Hp} {σ : L2.St} {ρ : Rho} {i : Nat} {kvs : List (List Key × V)} (r : Rl K F H σ ρ) (h : ownT i ρ = .ok kvs) : ∃ p, σ[i]? = some (some (.ref p)) ∧ F p = none ∧ H p = some (.dT kvs) := r.o i _ (ownT_ok h)
def sownT (i : Nat) : Rho → SR := fun ρ => .nx (ρ.set i (.o (.dT [])))
theorem s_ownT {tg : Expr} {pos dpos : Pos} {i : Nat} (hg : PG X tg (gName i)) (hs : swapsWithSole [tg] (.Dict [] [] dpos) pos.line X.env = pure false := by rfl) (hw : swappedStores [tg] (.Dict [] [] dpos) X.env = pure none := by rfl)
    (h1 : (assignEach [tg] X.env).map (·.2) = [assign tg X.env] := by rfl) : DS X T W F0 H0 (.Assign [tg] (.Dict [] [] dpos) pos) (sownT i) :=
  (ps_asg pe_dnewT hg hs hw h1).to fun Z σ H ⟨ρ, F, g, h⟩ => by
    intro p hp
    exact h _ F _ (g.ownG (Nx.lay g.at_.z hp) (frn g.at_.z hp) upd_same fun o ho => by rw [hp] at ho; cases ho) (Sub.refl F)
/-- found.get(k, d) -/
def getO (i : Nat) (fk fd : Rho → Res D) : Rho → Res D := fun ρ => (ownT i ρ).bind fun kvs => (fk ρ).bind fun k => (fd ρ).bind fun d => match k with
  | .pw ks => (match valV kvs (kI ks) with
    | some v => ofO (vInt v)
    | none => .ok d)
  | _ => .bad
theorem ntTd {kvs : List (List Key × V)} : ∀ ps, HO.dT kvs ≠ .tbl ps := fun ps z => by cases z
theorem e_getO {x : Str} {i : Nat} {k d : Expr} {p apos cpos : Pos} {fk fd : Rho → Res D} (hu : X.A.units + 1 < cLine) (hv : PE X (.Name x p) (tVar i)) (hk : DE X T W k fk) (hd : DE X T W d fd) (m : M2 X (.Name x p) "get" apos k d cpos) : DE X T W (.Call (.Attribute (.Name x p) "get" apos) [k, d] [] cpos) (getO i fk fd) :=
  (pe_dget2 hu hv hk hd m).to fun σ H Q ⟨ρ, F, a, h⟩ => by
    unfold getO at h
    cases e : ownT i ρ with
    | bad => rw [e] at h; exact h.elim
    | ex m => exact (ownT_nex e).elim
    | ok kvs =>
      rw [e] at h
      replace h : aft (Rp X.K) X.K T W σ F H Q ((fk ρ).bind fun k => (fd ρ).bind fun d => match k with
        | .pw ks => (match valV kvs (kI ks) with
          | some v => ofO (vInt v)
          | none => .ok d)
        | _ => .bad) := h
      obtain ⟨q0, k1, k2, k3⟩ := ownT_at a.r e
      refine ⟨_, k1, q0, rfl, .inr ⟨kvs, .inl k3⟩, ρ, F, a, (aft.bind (R := Rp X.K) h).imp fun _ _ y F1' H1 _ _ q => ?_⟩
      obtain ⟨k', F1, _, n1, rk, q⟩ := q
      refine ⟨ρ, F1, a.nx n1, (aft.bind (R := Rp X.K) q).imp fun _ _ z F2' H2 _ _ q => ?_⟩
      obtain ⟨d', F2, _, n2, rd, q⟩ := q
      have k4 : H2 q0 = some (.dT kvs) := n2.keep (n1.keep k3 ntTd) ntTd
      cases rk with
      | @pw b ks h2 =>
        have hb : H2 b = some (.tup ((kI ks).map kV)) := by rw [kI_V]; exact n2.z.sub _ _ (n2.f _ _ h2)
        refine ⟨valV kvs (kI ks), DGet.t k4 hb, ?_⟩
        replace q : aft (Rp X.K) X.K T W σ F2 H2 Q (match valV kvs (kI ks) with
          | some v => ofO (vInt v)
          | none => .ok d') := q
        cases ev : valV kvs (kI ks) with
        | none => rw [ev] at q; exact q z F2 H2 (Nx.refl n2.z) rd
        | some v =>
          rw [ev] at q
          obtain ⟨w, hw, q⟩ := ofO_ok q
          exact q v F2 H2 (Nx.refl n2.z) (vInt_ok hw)
      | _ => exact q.elim
/-- found[k] = e -/
def sputT (i : Nat) (fk fe : Rho → Res D) : Rho → SR := fun ρ => bindS (fe ρ) ρ fun d => bindS (ownT i ρ) ρ fun kvs => bindS (fk ρ) ρ fun k => match k, d with
  | .pw ks, .int v => if kvs.length < sizeLine then .nx (ρ.set i (.o (.dT (putK kvs (kI ks) (.int v))))) else .bad
  | _, _ => .bad
theorem dT_code {kvs : List (List Key × V)} {a : Addr} : ∀ q, HO.dT kvs ≠ LamX.CodeO a q := fun q z => by unfold LamX.CodeO at z; cases z
theorem s_putT {x : Str} {i : Nat} {k e : Expr} {p spos pos : Pos} {fk fe : Rho → Res D} (hu : X.A.units + 1 < cLine) (hv : PE X (.Name x p) (tVar i)) (hk : DE X T W k fk) (he : DE X T W e fe)
    (ha : ∀ v, assign (.Subscript (.Name x p) k spos) X.env v = (do
      let ov ← holding [v] (eval (.Name x p) X.env)
      let iv ← holding [v, ov] (eval k X.env)
      standAt spos
      holding [v, ov, iv] (setItem ov iv v)
      release [v, ov, iv] []) := by intro _; rfl)
    (hs : swapsWithSole [.Subscript (.Name x p) k spos] e pos.line X.env = pure false := by rfl) (hw : swappedStores [.Subscript (.Name x p) k spos] e X.env = pure none := by rfl)
    (h1 : (assignEach [.Subscript (.Name x p) k spos] X.env).map (·.2) = [assign (.Subscript (.Name x p) k spos) X.env] := by rfl) :
    DS X T W F0 H0 (.Assign [.Subscript (.Name x p) k spos] e pos) (sputT i fk fe) :=
  (ps_asg he (pg_sub hv hk (set_dict hu) ha) hs hw h1).to fun Z σ H ⟨ρ, F, g, h⟩ => by
    refine ⟨ρ, F, g.at_, (aftS.bind (R := Rp X.K) g h).imp fun _ _ v F1' H1 _ _ q => ?_⟩
    obtain ⟨d, F1, _, n1, g1, rv, q⟩ := q
    cases e : ownT i ρ with
    | bad => rw [e] at q; exact q.elim
    | ex m => exact (ownT_nex e).elim
    | ok kvs =>
      rw [e] at q
      obtain ⟨q0, k1, k2, k3⟩ := ownT_at g1.at_.r e
      refine ⟨_, k1, ρ, F1, g1.at_, (aftS.bind (R := Rp X.K) g1 q).imp fun _ _ w F2' H2 _ _ q => ?_⟩
      obtain ⟨k', F2, _, n2, g2, rk, q⟩ := q
      have k4 : H2 q0 = some (.dT kvs) := n2.keep k3 ntTd
      cases rk with
      | @pw b ks h2 =>
        cases rv with
        | int iv =>
          replace q : aftS X.K T W F0 H0 F2 Z (if kvs.length < sizeLine then .nx (ρ.set i (.o (.dT (putK kvs (kI ks) (.int iv))))) else .bad) := q
          split at q
          · rename_i hl
            have hb : H2 b = some (.tup ((kI ks).map kV)) := by rw [kI_V]; exact n2.z.sub _ _ h2
            refine ⟨q0, _, rfl, DPut.t k4 hb hl, ?_⟩
            exact q σ F2 _ (g2.putG (ownT_ok e) k1 k4 ntTd dT_code upd_same) (Sub.refl F2)
          · exact q.elim
        | _ => exact q.elim
      | _ => cases rv <;> exact q.elim
/-! ### made fast: from here on it is not changed -/
def frzT (i : Nat) (ρ : Rho) : Rho := match ρ[i]? with
  | some (.o (.dT kvs)) => ρ.set i (.z (.dT kvs))
  | _ => ρ
def sfrzT (i : Nat) (s : Rho → SR) : Rho → SR := fun ρ => s (frzT i ρ)
theorem pss_fast {st : List Stmt} {t : TS} (h : PSs X st t) : PSs X st (fun D σ H => t D σ H ∨ ∃ d u, H d = some u ∧ Mut (some u) ∧ ∀ od, t D σ (upd H d (.frz od u))) :=
  ⟨fun pins s σ H D I q => by
    rcases q with q | ⟨d, u, hd, mu, q⟩
    · exact h.run pins s σ H D I q
    · obtain ⟨od, I1⟩ := I.lock hd mu
      exact h.run pins s σ _ D I1 (q od)⟩
theorem OwnAt.sub {K : PySem.W.Frag} {F F' H : Hp} {p : Addr} (e : Sub F F') : ∀ {d : D}, OwnAt K F H p d → OwnAt K F' H p d
  | .lst _, ⟨xs, h, r⟩ => ⟨xs, h, r.mono e⟩
  | .dK _, h => h
  | .dT _, h => h
  | .dic _ _ _ _, ⟨es, h, r⟩ => ⟨es, h, r.mono e⟩
  | .ins _ _ _, ⟨dx, ws, h, r⟩ => ⟨dx, ws, h, r.mono e⟩
theorem Sg.fast {K : PySem.W.Frag} {F H : Hp} {σ : L2.St} {ρ : Rho} {i : Nat} {p : Addr} {kvs : List (List Key × V)} {od : Obj} (g : Sg K T F0 H0 F H σ ρ) (hi : ρ[i]? = some (.o (.dT kvs))) (hs : σ[i]? = some (some (.ref p))) (hp : F p = none) (hx : H p = some (.dT kvs)) :
    Sg K T F0 H0 (upd F p (.frz od (.dT kvs))) (upd H p (.frz od (.dT kvs))) σ (ρ.set i (.z (.dT kvs))) ∧ Sub F (upd F p (.frz od (.dT kvs))) := by
  have il : i < ρ.length := (List.getElem?_eq_some_iff.mp hi).1
  have ow := g.ow i _ p hi hs
  have sb : Sub F (upd F p (.frz od (.dT kvs))) := fun a o e => by rw [upd_ne fun z => by rw [z, hp] at e; cases e]; exact e
  have z1 : Fz (upd F p (.frz od (.dT kvs))) (upd H p (.frz od (.dT kvs))) := ⟨fun a o e => by
    by_cases ha : a = p
    · subst ha; rw [upd_same] at e ⊢; exact e
    · rw [upd_ne ha] at e ⊢; exact g.at_.z.sub _ _ e, fun a ps e => by
    by_cases ha : a = p
    · subst ha; rw [upd_same] at e; cases e
    · rw [upd_ne ha] at e; exact g.at_.z.nt _ _ e⟩
  refine ⟨⟨⟨z1, tabs_updG g.at_.t hx ntTd dT_code, ?_⟩, ⟨g.nx.f.trans sb, z1, fun b o eb no => ?_, fun a o e => ?_, fun t => tabs_updG (g.nx.tab t) hx ntTd dT_code⟩, fun j e q h1 h2 => ?_⟩, sb⟩
  · refine ⟨by rw [List.length_set]; exact g.at_.r.len, fun j e hj => ?_, fun j e hj => ?_, fun j k a b q1 q2 hn h1 h2 h3 h4 => ?_⟩
    · rw [List.getElem?_set] at hj
      by_cases hij : i = j
      · subst hij
        rw [if_pos rfl, if_pos il] at hj
        cases hj
        exact ⟨_, hs, .dT ⟨od, upd_same⟩⟩
      · rw [if_neg hij] at hj
        obtain ⟨v, e1, e2⟩ := g.at_.r.z j e hj
        exact ⟨v, e1, e2.mono sb⟩
    · rw [List.getElem?_set] at hj
      by_cases hij : i = j
      · subst hij
        rw [if_pos rfl, if_pos il] at hj
        cases hj
      · rw [if_neg hij] at hj
        obtain ⟨q, h1, h2, h3⟩ := g.at_.r.o j e hj
        have hne : p ≠ q := g.at_.r.ne i j _ _ p q hij hi hj hs h1
        exact ⟨q, h1, by rw [upd_ne (Ne.symm hne)]; exact h2, (h3.updN (Ne.symm hne)).sub sb⟩
    · have o1 : ∀ j e, (ρ.set i (.z (.dT kvs)))[j]? = some (En.o e) → ρ[j]? = some (En.o e) := fun j e h => by
        rw [List.getElem?_set] at h
        by_cases hij : i = j
        · subst hij
          rw [if_pos rfl, if_pos il] at h
          cases h
        · rw [if_neg hij] at h; exact h
      exact g.at_.r.ne j k a b q1 q2 hn (o1 j a h1) (o1 k b h2) h3 h4
  · rw [upd_ne fun z => by
      subst z
      obtain ⟨ps, k⟩ := ow o eb
      exact no ps k]
    exact g.nx.h _ _ eb no
  · by_cases ha : a = p
    · subst ha
      exact .inr fun o' e' => .inl (ow o' e')
    · rw [upd_ne ha] at e
      exact g.nx.new a o e
  · rw [List.getElem?_set] at h1
    by_cases hij : i = j
    · subst hij
      rw [if_pos rfl, if_pos il] at h1
      cases h1
    · rw [if_neg hij] at h1
      exact g.ow j e q h1 h2
theorem s_frzT {st : List Stmt} {s : Rho → SR} {i : Nat} (h : DSs X T W F0 H0 st s) : DSs X T W F0 H0 st (sfrzT i s) :=
  (pss_fast h).to fun Z σ H ⟨ρ, F, g, h⟩ => by
    unfold sfrzT frzT at h
    split at h
    · rename_i kvs e
      obtain ⟨p, k1, k2, k3⟩ := g.at_.r.o i _ e
      refine .inr ⟨p, .dT kvs, k3, True.intro, fun od => ?_⟩
      obtain ⟨g1, sb⟩ := g.fast (od := od) e k1 k2 k3
      exact ⟨_, _, g1, h.mono sb⟩
    · exact .inl ⟨ρ, F, g, h⟩
end
end DN
/-! tuples of ints whose object is known: how they come to be, and how that is forgotten -/
namespace DN
open PySem PySem.Spec PyProof.Rows L2
open LamX (Tabs ExtN)
mutual
/-- what is known of tuples' objects is forgotten -/
def offP : D → D
  | .pw ks => .tup (ks.map D.int)
  | .frm ds => .tup (offs ds)
  | .tup ds => .tup (offs ds)
  | d => d
def offs : List D → List D
  | [] => []
  | d :: ds => offP d :: offs ds
end
/-- what is a known tuple of ints is a tuple -/
def unP (f : Rho → Res D) : Rho → Res D := fun ρ => (f ρ).bind fun d => .ok (offP d)
mutual
theorem rp_off {K : PySem.W.Frag} {F : Hp} : ∀ {v : V} {d : D}, Rp K F v d → Rp K F v (offP d)
  | _, _, .pw h => by unfold offP; exact .tup (.inl (.inl h)) (RpAll.ints _)
  | _, _, .frm ⟨o, _, _, h⟩ t => by unfold offP; exact .tup (.inl (.inr ⟨o, h⟩)) (rp_offs t)
  | _, _, .tup h t => by unfold offP; exact .tup h (rp_offs t)
  | _, _, .non => .non
  | _, _, .bl b => .bl b
  | _, _, .int i => .int i
  | _, _, .str x => .str x
  | _, _, .fn x => .fn x
  | _, _, .ty n => .ty n
  | _, _, .lst h1 h2 => .lst h1 h2
  | _, _, .dK h => .dK h
  | _, _, .dT h => .dT h
  | _, _, .arr h => .arr h
  | _, _, .pro h => .pro h
  | _, _, .adr a => .adr a
  | _, _, .tab h1 h2 h3 h4 => .tab h1 h2 h3 h4
theorem rp_offs {K : PySem.W.Frag} {F : Hp} : ∀ {vs : List V} {ds : List D}, RpAll K F vs ds → RpAll K F vs (offs ds)
  | _, _, .nil => .nil
  | _, _, .cons h t => .cons (rp_off h) (rp_offs t)
end
/-- all of a list -/
def offA (f : Rho → Res (List D)) : Rho → Res (List D) := fun ρ => (f ρ).bind fun ds => .ok (offs ds)
/-- a display of ints, tuple(l) of a list of ints -/
def mkW (f : Rho → Res (List D)) : Rho → Res D := fun ρ => (f ρ).bind fun ds => if ds.length ≤ sizeLine then ofO ((intsD ds).map .pw) else .bad
def tupW : List D → Option D
  | [.lst ds] => (intsD ds).map .pw
  | _ => none
def catP : D → D → Option D
  | .pw a, .pw b => if a.length + b.length ≤ sizeLine then some (.pw (a ++ b)) else none
  | _, _ => none
def repP : D → D → Option D
  | .pw a, .int k => if 2 ≤ k ∧ k ≤ 1000 ∧ a.isEmpty = false ∧ a.length ≤ 1000 then some (.pw (List.replicate k.toNat a).flatten) else none
  | _, _ => none
def cutI (xs : List Int) (lo hi : Option Int) : List Int := (xs.drop (HT.sIx xs.length 0 lo)).take (HT.sIx xs.length xs.length hi - HT.sIx xs.length 0 lo)
def slP : D → Option Int → Option Int → Option D
  | .pw a, lo, hi => some (.pw (cutI a lo hi))
  | _, _, _ => none
def slcP (f : Rho → Res D) (g h : Rho → Res (Option Int)) : Rho → Res D := fun ρ => (f ρ).bind fun d => (g ρ).bind fun lo => (h ρ).bind fun hi => ofO (slP d lo hi)
theorem cutV_ints (ks : List Int) (lo hi : Option Int) : cutV (ks.map V.int) lo hi = (cutI ks lo hi).map V.int := by
  unfold cutV cutI
  rw [List.length_map, List.map_take, List.map_drop]
theorem cutI_whole {ks : List Int} {lo hi : Option Int} (h : HT.sIx ks.length 0 lo = 0 ∧ HT.sIx ks.length ks.length hi = ks.length) : cutI ks lo hi = ks := by
  unfold cutI
  rw [h.1, h.2, List.drop_zero, Nat.sub_zero, List.take_length]
theorem map_rep (ks : List Int) : ∀ n : Nat, (List.replicate n (ks.map V.int)).flatten = ((List.replicate n ks).flatten).map V.int
  | 0 => rfl
  | n + 1 => by rw [List.replicate_succ, List.flatten_cons, map_rep ks n, List.replicate_succ, List.flatten_cons, List.map_append]
section
variable {X : Cx} {T : List (Addr × Str)} {W : WX}
theorem e_unP {e : Expr} {f : Rho → Res D} (h : DE X T W e f) : DE X T W e (unP f) := h.to fun σ H Q ⟨ρ, F, a, q⟩ => by
  refine ⟨ρ, F, a, (aft.bind (R := Rp X.K) q).imp fun d _ v F1 H1 n _ q => ?_⟩
  obtain ⟨b, F2, _, n2, rv, q⟩ := q
  exact q v F2 H1 (Nx.refl n2.z) (rp_off rv)
theorem a_offA {es : List Expr} {f : Rho → Res (List D)} (h : DA X T W es f) : DA X T W es (offA f) := h.to fun σ H Q ⟨ρ, F, a, q⟩ => by
  refine ⟨ρ, F, a, (aft.bind (R := RpAll X.K) q).imp fun d _ v F1 H1 n _ q => ?_⟩
  obtain ⟨b, F2, _, n2, rv, q⟩ := q
  exact q v F2 H1 (Nx.refl n2.z) (rp_offs rv)
theorem e_tupW {es : List Expr} {x1} {pos : Pos} {f : Rho → Res (List D)} (h : DA X T W es f) : DE X T W (.Tuple es x1 pos) (mkW f) :=
  (pe_tup h).to fun σ H Q ⟨ρ, F, a, h⟩ => by
    refine ⟨ρ, F, a, (aft.bind (R := RpAll X.K) h).imp fun d _ v F1 H1 _ _ q => ?_⟩
    obtain ⟨ds, F2, _, n, rv, q⟩ := q
    have q : aft (Rp X.K) X.K T W σ F2 H1 Q (if ds.length ≤ sizeLine then ofO ((intsD ds).map .pw) else .bad) := q
    split at q
    · rename_i hl
      obtain ⟨z, hz, q'⟩ := ofO_ok q
      obtain ⟨ks, hk, rfl⟩ := Option.map_eq_some_iff.mp hz
      refine ⟨by rw [rv.length]; exact hl, fun p hp => q' _ _ _ (Nx.push n.z hp ntT) (.pw (by rw [rp_ints rv hk]; exact upd_same))⟩
    · exact q.elim
theorem c_tupW : CallR X (.type "tuple") (rDn X.K T tupW) := by
  intro pins s σ H xs us Q I r h
  obtain ⟨F, ds, z, hz, rs, hG, q⟩ := h
  unfold tupW at hG
  split at hG
  · obtain ⟨v, rfl, rv⟩ := all1 rs
    obtain ⟨ks, hk, rfl⟩ := Option.map_eq_some_iff.mp hG
    cases rv with
    | lst h1 r1 => exact call_tuple_of pins s σ H _ us Q I r ⟨_, _, rfl, .inl ⟨SqL.of (hz.sub _ _ h1), fun p hp => donep hz hp ntT q (.pw (by rw [rp_ints r1 hk]; exact upd_same))⟩⟩
  · cases hG
theorem o_catP : OpR X (binaryOp .Add) (rD2 X.K T catP) := by
  intro pins s σ H x y v u Q I rx ry h
  obtain ⟨F, d, e, z, hz, rd, re, hG, q⟩ := h
  cases rd with
  | @pw a ks h1 =>
    cases re with
    | @pw b js h2 =>
      have hG : (if ks.length + js.length ≤ sizeLine then some (D.pw (ks ++ js)) else none) = some z := hG
      split at hG
      · rename_i hl
        cases hG
        refine op_catA pins s σ H _ _ v u Q I rx ry ⟨a, b, _, _, rfl, rfl, .inl (.inl (hz.sub _ _ h1)), .inl (.inl (hz.sub _ _ h2)), by rw [List.length_map, List.length_map]; exact hl, fun e => ?_, fun e1 e2 => ?_, fun e1 e2 p hp => ?_⟩
        · obtain rfl := List.map_eq_nil_iff.mp e
          exact done0 hz q (.pw h2)
        · obtain rfl := List.map_eq_nil_iff.mp e2
          rw [List.append_nil] at q
          exact done0 hz q (.pw h1)
        · exact donep hz hp ntT q (.pw (by rw [List.map_append]; exact upd_same))
      · cases hG
    | _ => cases hG
  | _ => cases hG
theorem o_repP : OpR X (binaryOp .Mult) (rD2 X.K T repP) := by
  intro pins s σ H x y v u Q I rx ry h
  obtain ⟨F, d, e, z, hz, rd, re, hG, q⟩ := h
  cases rd with
  | @pw a ks h1 =>
    cases re with
    | int k =>
      have hG : (if 2 ≤ k ∧ k ≤ 1000 ∧ ks.isEmpty = false ∧ ks.length ≤ 1000 then some (D.pw (List.replicate k.toNat ks).flatten) else none) = some z := hG
      split at hG
      · rename_i hc
        cases hG
        obtain ⟨c1, c2, c3, c4⟩ := hc
        have some_ : ks.map V.int ≠ [] := fun z => by
          rw [List.map_eq_nil_iff.mp z] at c3
          cases c3
        exact op_repT pins s σ H _ _ v u Q I rx ry ⟨a, k, _, rfl, rfl, .inl (.inl (hz.sub _ _ h1)), some_, c1, c2, by rw [List.length_map]; exact c4, fun p hp => donep hz hp ntT q (.pw (by rw [map_rep]; exact upd_same))⟩
      · cases hG
    | _ => cases hG
  | _ => cases hG
def rSlP (K : PySem.W.Frag) (T : List (Addr × Str)) : V → Option Int → Option Int → Hp → VK → Prop := fun x lo hi H Q =>
  ∃ F d z, Fz F H ∧ Rp K F x d ∧ slP d lo hi = some z ∧ ∀ v F' H', Nx T F H F' H' → Rp K F' v z → Q v H'
theorem x_slP : SlR X (rSlP X.K T) := by
  intro pins s σ H x v vl vu lo hi sl Q I rx hs pl pu h
  obtain ⟨F, d, z, hz, rd, hG, q⟩ := h
  cases rd with
  | @pw a ks h1 =>
    cases hG
    refine sl_tupA pins s σ H _ v vl vu lo hi sl Q I rx hs pl pu ⟨a, _, rfl, .inl (.inl (hz.sub _ _ h1)), fun hw => ?_, fun _ p hp => donep hz hp ntT q (.pw (by rw [cutV_ints]; exact upd_same))⟩
    rw [List.length_map] at hw
    rw [cutI_whole hw] at q
    exact done0 hz q (.pw h1)
  | _ => cases hG
theorem e_slP {e : Expr} {lo hi : Option Expr} {f : Rho → Res D} {g h : Rho → Res (Option Int)} {p2 pos : Pos} (he : DE X T W e f) (hl : DO X T W lo g) (hh : DO X T W hi h) : DE X T W (.Subscript e (.Slice lo hi none p2) pos) (slcP f g h) :=
  (pe_slice x_slP he hl hh).to fun σ H Q ⟨ρ, F, a, h⟩ => by
    refine ⟨ρ, F, a, (aft.bind (R := Rp X.K) h).imp fun d _ v F1 H1 _ _ q => ?_⟩
    obtain ⟨b, F2, _, n, rv, q⟩ := q
    refine ⟨ρ, F2, a.nx n, (aft.bind (R := fun _ a b => a = b) q).imp fun lo _ v' F3 H3 _ _ q => ?_⟩
    obtain ⟨lo', F4, _, n2, rl, q⟩ := q
    subst rl
    refine ⟨ρ, F4, a.nx (n.trans n2), (aft.bind (R := fun _ a b => a = b) q).imp fun hi _ v'' F5 H5 _ _ q => ?_⟩
    obtain ⟨hi', F6, _, n3, rh, q⟩ := q
    subst rh
    obtain ⟨z, hz, q'⟩ := ofO_ok q
    exact ⟨F6, b, z, n3.z, rv.mono (n2.trans n3).f, hz, q'⟩
end
end DN
/-! {k: v} with one key, a tuple of ints: a frozen book -/
namespace L2
open PySem PySem.Spec PyProof.Rows
def tDispT (tk tv : TE) : TE := fun σ H Q => ∀ p, H p = none → tk σ (upd H p (.dT [])) fun x H1 => tv σ H1 fun y H2 => H2 p = some (.dT []) ∧
  ∃ (ks : List Key) (b : Addr), x = .ref b ∧ H2 b = some (.tup (ks.map kV)) ∧ ∀ od, Q (.ref p) (upd H2 p (.frz od (.dT [(ks, y)])))
theorem pe_dispT {X : Cx} {k v : Expr} {pos : Pos} {tk tv : TE} (hu : X.A.units < cLine) (hk : PE X k tk) (hv : PE X v tv) : PE X (.Dict [some k] [v] pos) (tDispT tk tv) := by
  refine ⟨fun pins s σ H Q I q => ?_⟩
  have hn := I.hok.fresh (Nat.le_refl s.heap.objs.size)
  have I1 := I.laid (a := s.heap.objs.size) (o := .dT []) (h' := s.heap.push { cls := .type "dict", data := .dict #[] }) (t' := s.toks) (fun _ _ q => Heap.get?_push_of_some _ q) (Nat.le_refl _) (dt_empty s.heap I.big)
  have hl := pairTrees_length [some k] [v] X.env pos rfl rfl
  rw [arm_eval_Dict, zip_pairTrees [some k] [v] X.env pos rfl rfl, dictDisplay_pairs (pairTrees [some k] [v] X.env pos) (by intro e; rw [e] at hl; cases hl) (by rw [hl]; show 1 < 17; omega)]
  refine wpAny_bind (wpAny_standAt (wpAny_bind (wpAny_subDictH (knd := tupleKind (mixKind X.prog X.w)) hu (by rw [hl]; show 1 ≤ 15; omega) ?_)))
  refine thn ((pps_cons hk hv pps_nil).run pins _ σ _ (fun ps H2 => match ps with
    | [(x, y)] => H2 s.heap.objs.size = some (.dT []) ∧ ∃ (ks : List Key) (b : Addr), x = .ref b ∧ H2 b = some (.tup (ks.map kV)) ∧ ∀ od, Q (.ref s.heap.objs.size) (upd H2 s.heap.objs.size (.frz od (.dT [(ks, y)])))
    | _ => False) I1 (q _ hn)) fun ws s2 ⟨ps, H2, I2, rel, e⟩ => ?_
  cases rel with
  | nil => exact e.elim
  | @cons p w pr wr hr ht =>
    cases ht with
    | cons _ _ => exact e.elim
    | nil =>
      obtain ⟨x, y⟩ := p
      obtain ⟨e, ks, b, ex, hb, q2⟩ := e
      obtain rfl : x = .ref b := ex
      obtain ⟨u1, u2⟩ := w
      obtain ⟨r1, r2⟩ := hr
      obtain rfl : u1 = .ref b := r1
      obtain ⟨z, hd, xs0, r0, dd⟩ := dt_of I2.hok e
      cases r0
      refine ⟨[(ks, b, u2)], ⟨rfl, rfl, key_of I2.hok hb, True.intro⟩, dd, fun h' tk dd' hs => wpAny_pure ?_⟩
      have dd' : h'.DictOfH (tupleKind (mixKind X.prog X.w)) s.heap.objs.size [(ks, b, u2)] := dd'
      have he : ∃ q, h'.get? s.heap.objs.size = some q := let ⟨q, _, _, hq, _⟩ := dd'; ⟨q, hq⟩
      have nb : b ≠ s.heap.objs.size := fun z => by rw [z, e] at hb; cases hb
      have I3 : Inv X pins σ (upd H2 s.heap.objs.size (.dT [(ks, y)])) { s2 with heap := h', toks := tk } := d_write I2 (by rw [e]; exact True.intro) hs he (by
        obtain ⟨o, es, ep, h1, h2, h3, h4, h5, h6⟩ := dd'
        exact ⟨by rw [sizeLine_eq]; show 1 ≤ 16777216; omega, hd, [(ks, b, u2)], .cons ⟨rfl, by rw [upd_ne nb]; exact hb, r2⟩ .nil, o, es, ep, h1, h2, h3, h4, h6⟩)
      obtain ⟨od, I4⟩ := I3.lock upd_same True.intro
      refine ⟨.ref s.heap.objs.size, _, I4, rfl, ?_⟩
      have := q2 od
      rw [show upd (upd H2 s.heap.objs.size (.dT [(ks, y)])) s.heap.objs.size (.frz od (.dT [(ks, y)])) = upd H2 s.heap.objs.size (.frz od (.dT [(ks, y)])) from upd_upd]
      exact this
end L2
namespace DN
open PySem PySem.Spec PyProof.Rows L2
open LamX (Tabs ExtN)
/-- {k: v}, not changed any more -/
def dispT (fk fv : Rho → Res D) : Rho → Res D := fun ρ => (fk ρ).bind fun k => (fv ρ).bind fun v => match k, v with
  | .pw ks, .int i => .ok (.dT [(kI ks, .int i)])
  | _, _ => .bad
/-- a book laid empty at p, filled and made fast -/
theorem nx_fillT {T : List (Addr × Str)} {F H F1 H1 : Hp} {p : Addr} {od : Obj} {kvs : List (List Key × V)} (z : Fz F H) (hp : H p = none) (n1 : Nx T F (upd H p (.dT [])) F1 H1) : Nx T F H (upd F1 p (.frz od (.dT kvs))) (upd H1 p (.frz od (.dT kvs))) := by
  have fp : F p = none := frn z hp
  have k1 : H1 p = some (.dT []) := n1.keep upd_same ntTd
  refine ⟨fun x u e => ?_, ⟨fun x u e => ?_, fun x ps e => ?_⟩, fun b u e nt => ?_, fun x u e => ?_, fun t => tabs_updG (n1.tab ((Nx.lay (T := T) z hp).tab t)) k1 ntTd dT_code⟩
  · rw [upd_ne fun q => by rw [q, fp] at e; cases e]
    exact n1.f _ _ e
  · by_cases hx : x = p
    · subst hx; rw [upd_same] at e ⊢; exact e
    · rw [upd_ne hx] at e ⊢; exact n1.z.sub _ _ e
  · by_cases hx : x = p
    · subst hx; rw [upd_same] at e; cases e
    · rw [upd_ne hx] at e; exact n1.z.nt _ _ e
  · have hb : b ≠ p := ne_of_none e hp
    rw [upd_ne hb]
    exact n1.h b u (by rw [upd_ne hb]; exact e) nt
  · by_cases hx : x = p
    · subst hx
      exact .inr fun o' e' => by rw [hp] at e'; cases e'
    · rw [upd_ne hx] at e
      rcases n1.new x u e with h | h
      · exact .inl h
      · exact .inr fun o' e' => h o' (by rw [upd_ne (ne_of_none e' hp)]; exact e')
theorem e_dispT {X : Cx} {T : List (Addr × Str)} {W : WX} {k v : Expr} {pos : Pos} {fk fv : Rho → Res D} (hu : X.A.units < cLine) (hk : DE X T W k fk) (hv : DE X T W v fv) : DE X T W (.Dict [some k] [v] pos) (dispT fk fv) :=
  (pe_dispT hu hk hv).to fun σ H Q ⟨ρ, F, a, h⟩ => by
    intro p hp
    have n0 : Nx T F H F (upd H p (.dT [])) := Nx.lay a.z hp
    refine ⟨ρ, F, a.nx n0, ?_⟩
    unfold dispT at h
    cases e1 : fk ρ with
    | bad => rw [e1] at h; exact h.elim
    | ex m =>
      rw [e1] at h
      exact fun F' H' n => h F' H' (n0.trans n)
    | ok k' =>
      rw [e1] at h
      intro x F1 H1 n1 rx
      refine ⟨ρ, F1, (a.nx n0).nx n1, ?_⟩
      cases e2 : fv ρ with
      | bad => rw [e2] at h; exact h.elim
      | ex m =>
        rw [e2] at h
        exact fun F' H' n => h F' H' ((n0.trans n1).trans n)
      | ok v' =>
        rw [e2] at h
        intro y F2 H2 n2 ry
        have k2 : H2 p = some (.dT []) := (n1.trans n2).keep upd_same ntTd
        refine ⟨k2, ?_⟩
        cases rx with
        | @pw b ks hb =>
          cases ry with
          | int i =>
            refine ⟨kI ks, b, rfl, by rw [kI_V]; exact n2.z.sub _ _ (n2.f _ _ hb), fun od => ?_⟩
            exact h (.ref p) (upd F2 p (.frz od (.dT [(kI ks, .int i)]))) _ (nx_fillT a.z hp (n1.trans n2)) (.dT ⟨od, upd_same⟩)
          | _ => exact h.elim
        | _ => cases v' <;> exact h.elim
end DN
/-! dict(book): the keys' hashes are apart -/
namespace L2
open PySem PySem.Spec PyProof.Rows
/-- dict(d) of a dict whose keys are objects (KDictCopyH has the rest of the road) -/
theorem call_dictH {prog : Program} {w : World} {K : Type} [DecidableEq K] {knd : HeapKind prog w K} {A : Around} {E : Value → Shared → Prop} {s : Shared} {o : Addr} {xs : List (K × Addr × Value)} {Q : Value → Shared → Prop}
    (hu : knd.room A.in1.in1) (lo : (o == sysModules) = false) (hm : s.heap.DictOfH knd o xs) (hty : ∀ x ∈ xs, s.TypeIs (.ref x.2.1) "tuple") (hap : (xs.map fun x => knd.hash x.1).Nodup) (hsz : xs.length ≤ sizeLine)
    (hst : (s.heap.push { cls := .type "dict", data := .dict #[] }).DictOfH knd o xs)
    (hQ : ∀ h', h'.DictOfH knd s.heap.objs.size xs → Heap.SameBut s.heap.objs.size (s.heap.push { cls := .type "dict", data := .dict #[] }) h' → Q (.ref s.heap.objs.size) { s with heap := h' }) :
    wpAny (model prog w) A (call (.type "dict") [.ref o]) Q E s := by
  have hdo : s.heap.objs.size ≠ o := fun e => by
    obtain ⟨_, _, _, hg, _⟩ := hm
    exact absurd (Heap.lt_size hg) (by rw [e]; exact Nat.lt_irrefl _)
  have hn : (s.heap.push { cls := .type "dict", data := .dict #[] }).DictOfH knd s.heap.objs.size [] := Heap.DictOfH.new s.heap
  refine callType_codes (Q₁ := fun v s₁ => v = .ref s.heap.objs.size ∧ s₁ = { s with heap := s.heap.push { cls := .type "dict", data := .dict #[] } }) PySem.F.kt_called_dict (PySem.F.kt_typeCall_dict_1 _) PySem.F.entry_dict_init (kt_code_dict_new _ ⟨rfl, rfl⟩) fun v s₁ e => ?_
  obtain ⟨rfl, rfl⟩ := e
  refine ⟨hn.typeIs, PySem.F.args_dict_init_2 _ _, wpAny_bind (wpAny_bind (wpAny_notOrdered_dict hn.typeIs (wpAny_pure ?_)))⟩
  refine updateFrom_dictH (A := A.in1) .none hu hdo lo hn hst (.inr ⟨fun x hx => ?_, hap⟩) (by rw [List.length_nil]; omega) fun h' h1 _ h3 => ⟨rfl, hQ h' (by rw [storedAllH_nil_of_nodup xs hm.nodup] at h1; exact h1) h3⟩
  obtain ⟨ob, ho, hc⟩ := hty x hx
  exact ⟨ob, Heap.get?_push_of_some _ ho, hc⟩
def keyHashI (ks : List Int) : Int := reduceHash (Builtin.Tuple.tupleHashOf (ks.map hashInt))
theorem keyHash_kI {P : Program} {w : World} (k : List Int) : tupleKeyHash (mixKind P w) (DN.kI k) = keyHashI k := by
  unfold tupleKeyHash keyHashI DN.kI
  rw [List.map_map]
  rfl
theorem KT_fst {H : Hp} {kvs : List (List Key × V)} {xs : List (List Key × Addr × Value)} (r : KT H kvs xs) : kvs.map (·.1) = xs.map (·.1) := by
  induction r with
  | nil => rfl
  | cons h _ ih => rw [List.map_cons, List.map_cons, h.1, ih]
theorem call_dictT {X : Cx} (hu : X.A.units + 2 < cLine) : CallR X (.type "dict") (fun xs H Q => ∃ (a : Addr) (kvs : List (List Key × V)) (ks : List (List Int)), xs = [.ref a] ∧ Rd H a (.dT kvs) ∧ kvs.map (·.1) = ks.map DN.kI ∧ (ks.map keyHashI).Nodup ∧ ∀ p, H p = none → Q (.ref p) (upd H p (.dT kvs))) := by
  intro pins s σ H xs us Q I r q
  obtain ⟨a, kvs, ks, rfl, hd, hk, hap, q⟩ := q
  obtain ⟨u, rfl, rx⟩ := vals1 r
  cases rx
  obtain ⟨z, lo, xs, rel, dd⟩ := dt_rd I.hok hd
  have st : (tupleKind (mixKind X.prog X.w)).Stays := tupleKind_stays
  obtain ⟨ob, es, ep, h1, h2, h3, h4, h5, h6⟩ := id dd
  have e1 : xs.map (·.1) = ks.map DN.kI := by rw [← hk]; exact (KT_fst rel).symm
  have e2 : (xs.map fun x => (tupleKind (mixKind X.prog X.w)).hash x.1) = ks.map keyHashI := by
    have := congrArg (List.map (tupleKeyHash (mixKind X.prog X.w))) e1
    rw [List.map_map, List.map_map] at this
    exact this.trans (List.map_congr_left fun k _ => keyHash_kI k)
  have kp : ∀ b o, s.heap.get? b = some o → (s.heap.push { cls := .type "dict", data := .dict #[] }).get? b = some o := fun b o e => Heap.get?_push_of_some _ e
  refine call_dictH (knd := tupleKind (mixKind X.prog X.w)) hu lo dd (keyed_apart st dd) (by rw [e2]; exact hap) (by rw [← Paired.length rel]; exact z)
    ⟨ob, es, ep, kp _ _ h1, h2, h3, h4, fun x hx => st.stays (fun b o _ _ e _ => kp b o e) (h5 x hx), h6⟩ fun h' dd' hs => ?_
  have hm : (s.heap.objs.size == sysModules) = false := beq_eq_false_iff_ne.mpr (Nat.ne_of_gt I.big)
  have hf : H s.heap.objs.size = none := I.hok.fresh (Nat.le_refl _)
  refine ⟨.ref s.heap.objs.size, upd H s.heap.objs.size (.dT kvs), I.laid (t' := s.toks) (fun b u e => (hs.2 b (Nat.ne_of_lt (Heap.lt_size e))).trans (kp _ _ e)) (Nat.le_refl _) ?_, rfl, q _ hf⟩
  obtain ⟨ob', es', ep', g1, g2, g3, g4, g5, g6⟩ := dd'
  exact ⟨z, hm, xs, KT.keeps rel fun b ys e => by rw [upd_ne (ne_of_none e hf)]; exact e, ob', es', ep', g1, g2, g3, g4, g6⟩
end L2
namespace DN
open PySem PySem.Spec PyProof.Rows L2
open LamX (Tabs ExtN)
def keysI : List (List Key × V) → Option (List (List Int))
  | [] => some []
  | q :: r => (intsOf q.1).bind fun l => (keysI r).map fun ls => l :: ls
theorem keysI_ok : ∀ {kvs : List (List Key × V)} {ls : List (List Int)}, keysI kvs = some ls → kvs.map (·.1) = ls.map kI
  | [], ls, h => by cases h; rfl
  | q :: r, ls, h => by
    obtain ⟨l, h1, h2⟩ := Option.bind_eq_some_iff.mp h
    obtain ⟨ls', h3, h4⟩ := Option.map_eq_some_iff.mp h2
    subst h4
    rw [List.map_cons, List.map_cons, keysI_ok h3, intsOf_ok h1]
/-- the keys hash apart -/
def apart (kvs : List (List Key × V)) : Bool := match keysI kvs with
  | some ls => decide ((ls.map keyHashI).Nodup)
  | none => false
def scopyT (i : Nat) (f : Rho → Res (List D)) : Rho → SR := fun ρ => bindS (f ρ) ρ fun ds => match ds with
  | [.dT kvs] => if apart kvs = true then .nx (ρ.set i (.o (.dT kvs))) else .bad
  | _ => .bad
section
variable {X : Cx} {T : List (Addr × Str)} {W : WX} {F0 H0 : Hp}
theorem s_copyT {tg e : Expr} {x : Str} {p pos cpos : Pos} {i : Nat} {f : Rho → Res (List D)} (hu : X.A.units + 2 < cLine) (hb : Gl X x) (hm : X.mg x = none) (hv : bootBuiltins x = some (.type "dict")) (ha : DA X T W [e] f) (hg : PG X tg (gName i))
    (hn : x ≠ "__name__" := by decide) (hdb : (x == ("__debug__" : Str)) = false := by decide) (hpl : starEach [e] X.env = (false, eval e X.env) :: starEach [] X.env := by rfl) (hpl2 : (backTo cpos (starEach [] X.env)).any (·.1) = false := by rfl)
    (hs : swapsWithSole [tg] (.Call (.Name x p) [e] [] cpos) pos.line X.env = pure false := by rfl) (hw : swappedStores [tg] (.Call (.Name x p) [e] [] cpos) X.env = pure none := by rfl)
    (h1 : (assignEach [tg] X.env).map (·.2) = [assign tg X.env] := by rfl) : DS X T W F0 H0 (.Assign [tg] (.Call (.Name x p) [e] [] cpos) pos) (scopyT i f) :=
  (ps_asg (pe_callTy (call_dictT hu) hb hm hv ha hn hdb hpl hpl2) hg hs hw h1).to fun Z σ H ⟨ρ, F, g, h⟩ => by
    refine ⟨ρ, F, g.at_, (aftS.bind (R := RpAll X.K) g h).imp fun _ _ vs F1' H1 _ _ q => ?_⟩
    obtain ⟨ds, F1, _, n1, g1, rv, q⟩ := q
    split at q
    · rename_i kvs _
      split at q
      · rename_i hap
        obtain ⟨v, rfl, rw0⟩ := all1 rv
        cases rw0 with
        | @dT a _ hf =>
          obtain ⟨od, hf⟩ := hf
          unfold apart at hap
          split at hap
          · rename_i ls hls
            refine ⟨a, kvs, ls, rfl, .inr ⟨od, g1.at_.z.sub _ _ hf⟩, keysI_ok hls, of_decide_eq_true hap, fun q0 hq => ?_⟩
            exact q _ F1 _ (g1.ownG (Nx.lay g1.at_.z hq) (frn g1.at_.z hq) upd_same fun o ho => by rw [hq] at ho; cases ho) (Sub.refl F1)
          · cases hap
      · exact q.elim
    · exact q.elim
end
end DN
/-! book == {} -/
namespace L2
open PySem PySem.Spec PyProof.Rows
theorem same_empty {prog : Program} {w : World} {A : Around} {E : Value → Shared → Prop} {s : Shared} {nm : String} {a b : Addr} {oa ob : Obj} {es : Array DictEntry} {n m : Nat} {Q : Bool → Shared → Prop} (ha : (a == sysModules) = false) (hb : (b == sysModules) = false)
    (da : s.heap.get? a = some oa) (ea : oa.data = .dict es n) (db : s.heap.get? b = some ob) (eb : ob.data = .dict #[] m) (h : Q es.isEmpty s) : wpAny (model prog w) A (Builtin.Dict.samePairs nm a b) Q E s := by
  have all : ∀ c : Addr, (c == sysModules) = false → ∀ Q' : PUnit → Shared → Prop, Q' () s → wpAny (model prog w) A (Builtin.Dict.showsAll c) Q' E s := fun c hc Q' q => by
    unfold Builtin.Dict.showsAll
    rw [hc]
    exact wpAny_pure q
  refine wpAny_bind (all a ha _ (wpAny_bind (all b hb _ (wpAny_bind (wpAny_dictEntries da ea (wpAny_bind (wpAny_dictEntries db eb ?_)))))))
  cases hz : es.isEmpty with
  | false =>
    rw [hz] at h
    have : es.size ≠ 0 := fun q => by
      rw [Array.isEmpty] at hz
      simp [q] at hz
    rw [if_pos (by simpa using this)]
    exact wpAny_bind (wpAny_rule (wpAny_pure h))
  | true =>
    rw [hz] at h
    obtain rfl := Array.isEmpty_iff.mp hz
    rw [if_neg (by simp)]
    refine wpAny_bind (wpAny_dictEpoch da ea ?_)
    refine wpAny_bind ?_
    rw [Std.Legacy.Range.forIn_eq_forIn_range']
    exact wpAny_pure (wpAny_pure h)
/-- book == {} -/
def rEmptyT : R2 := fun x y H Q => ∃ a b kvs, x = .ref a ∧ y = .ref b ∧ Rd H a (.dT kvs) ∧ H b = some (.dT []) ∧ Q (.bl kvs.isEmpty) H
theorem op_eqE {X : Cx} (hu : X.A.units < cLine) : OpR X (compareOp .Eq) rEmptyT := by
  intro pins s σ H x y v u Q I rx ry h
  obtain ⟨a, b, kvs, rfl, rfl, ea, eb, q⟩ := h
  obtain rfl : v = Value.ref a := rx
  obtain rfl : u = Value.ref b := ry
  obtain ⟨_, la, xs, ra, da⟩ := dt_rd I.hok ea
  obtain ⟨_, lb, ys, rb, db⟩ := dt_of I.hok eb
  cases rb
  obtain ⟨oa, es, n, h1, h2, h3, h4, h5, h6⟩ := id da
  obtain ⟨ob, es', m, g1, g2, g3, g4, g5, g6⟩ := id db
  obtain rfl : es' = #[] := Array.toList_inj.mp g4
  have he : es.isEmpty = kvs.isEmpty := by
    have e1 := Paired.length ra
    have e2 := size_of_entries h4
    cases kvs with
    | nil =>
      rw [← e1] at e2
      exact Array.isEmpty_iff_size_eq_zero.mpr e2
    | cons _ _ =>
      rw [← e1, List.length_cons] at e2
      cases q : es.isEmpty with
      | false => rfl
      | true => rw [Array.isEmpty_iff_size_eq_zero.mp q] at e2; omega
  refine wpAny_richCompare_same_room (op := .Eq) da.typeIs db.typeIs PySem.F.slot_dict_eq (wpAny_call_entry PySem.F.slot_dict_eq da.typeIs PySem.F.entry_dict_eq ?_ (PySem.F.args_dict_eq_2 _ _)) hu
  unfold Builtin.«dict.__eq__»
  refine wpAny_bind ?_
  unfold Builtin.Dict.dictSlotArgs
  refine wpAny_bind (wpAny_notOrdered_dict da.typeIs ?_)
  refine wpAny_pure (wpAny_bind (wpAny_isInstance (T := "dict") db.typeIs PySem.F.sub_dict_dict ?_))
  rw [if_neg (by decide)]
  refine wpAny_bind (wpAny_pure (wpAny_bind (wpAny_pure ?_)))
  refine wpAny_bind (same_empty la lb h1 h3 g1 g3 ?_)
  refine wpAny_pure ⟨_, rfl, fun z => (by cases z), fin_bl I q (by rw [he]; simp)⟩
end L2
namespace DN
open PySem PySem.Spec PyProof.Rows L2
open LamX (Tabs ExtN)
def emptyT (f : Rho → Res D) : Rho → Res Bool := fun ρ => (f ρ).bind fun d => match d with
  | .dT kvs => .ok kvs.isEmpty
  | _ => .bad
theorem q_emptyT {X : Cx} {T : List (Addr × Str)} {W : WX} {e : Expr} {p2 pos : Pos} {f : Rho → Res D} (hu : X.A.units < cLine) (he : DE X T W e f) : DQ X T W (.Compare e [.Eq] [.Dict [] [] p2] pos) (emptyT f) :=
  (pt_cmpR (op_eqE hu) he pe_dnewT rfl).to fun σ H Q ⟨ρ, F, a, h⟩ => by
    refine ⟨ρ, F, a, (aft.bind (R := Rp X.K) h).imp fun _ _ v F1' H1 _ _ q => ?_⟩
    obtain ⟨d, F1, _, n, rv, q⟩ := q
    cases rv with
    | @dT a' kvs hf =>
      obtain ⟨od, hf⟩ := hf
      intro p hp
      have n1 : Nx T F1 H1 F1 (upd H1 p (.dT [])) := Nx.lay n.z hp
      exact ⟨a', p, kvs, rfl, rfl, .inr ⟨od, n1.z.sub _ _ hf⟩, upd_same, _, rfl, q _ F1 _ n1 rfl⟩
    | _ => exact q.elim
end DN
/-! sorted(book.items()) -/
namespace L2
open PySem PySem.Spec PyProof.Rows PySem.W
/-- a book's entries -/
abbrev Ent := List Int × Int
def entB (e : Ent) : List Key × V := (DN.kI e.1, .int e.2)
def encB (e : Ent) : PyData := .tuple [.tuple (e.1.map .int), .int e.2]
def leB (e f : Ent) : Bool := dataLe false encB e f
def sortB (l : List Ent) : List Ent := l.mergeSort leB
/-- what is found at every place of two lists, as one list -/
theorem pick_all {α β γ : Type} {P : α → β → γ → Prop} : ∀ (as : List α) (ps : List β), as.length = ps.length → (∀ (j : Nat) (a : α) (b : β), as[j]? = some a → ps[j]? = some b → ∃ c, P a b c) →
    ∃ bs : List (α × β × γ), bs.map (fun z => z.1) = as ∧ bs.map (fun z => z.2.1) = ps ∧ ∀ z ∈ bs, P z.1 z.2.1 z.2.2
  | [], [], _, _ => ⟨[], rfl, rfl, nofun⟩
  | a :: as, p :: ps, e, h => by
    obtain ⟨c, hc⟩ := h 0 a p rfl rfl
    obtain ⟨bs, rfl, rfl, k⟩ := pick_all as ps (Nat.succ.inj e) fun j => h (j + 1)
    exact ⟨(a, p, c) :: bs, rfl, rfl, List.forall_mem_cons.mpr ⟨hc, k⟩⟩
theorem each_fn {α : Type} (f : α → Value) : ∀ zs : List α, EachIs (fun v z => v = f z) (zs.map f) zs
  | [] => .nil
  | _ :: zs => .cons rfl (each_fn f zs)
theorem fn_each {α : Type} {f : α → Value} : ∀ {vs : List Value} {zs : List α}, EachIs (fun v z => v = f z) vs zs → vs = zs.map f
  | _, _, .nil => rfl
  | _, _, .cons e t => by rw [e, fn_each t, List.map_cons]
theorem reads_ints {h : Heap} : ∀ {ns : List Int} {us : List Value}, Vals (ns.map V.int) us → ReadsAll h us (ns.map .int) []
  | [], _, r => by cases r; exact .nil
  | n :: ns, _, r => by
    rw [List.map_cons] at r
    cases r with
    | cons h1 t =>
      obtain ⟨tk, rfl⟩ := h1
      exact .cons (as := []) (bs := []) (.int n tk) (reads_ints t)
section
variable {X : Cx}
def rItemsR : V → List V → Hp → VK → Prop := fun x xs H Q => ∃ (a : Addr) (kvs : List (List Key × V)), x = .ref a ∧ xs = [] ∧ Rd H a (.dT kvs) ∧ ∀ p, H p = none → Q (.ref p) (upd H p (DX.itemsO p a))
theorem mt_itemsR : MtR X "dict.items" rItemsR := by
  intro pins s σ H x xs v us Q I rx rxs h
  obtain ⟨a, kvs, rfl, rfl, ha, q⟩ := h
  cases rx
  cases rxs
  obtain ⟨z, hd, ys, rel, o, es, ep, ho, hx, hdat, _⟩ := dt_rd I.hok ha
  exact DT.callItems (es := es) (ep := ep) hd ⟨o, ho, hx, hdat⟩ ⟨.ref s.heap.objs.size, _, I.laid (t' := s.toks) (fun b u e => Heap.get?_push_of_some _ e) (Nat.le_refl _) (DX.itemsO_ok (Heap.get?_push_size _ rfl)), rfl, q _ (I.hok.fresh (Nat.le_refl _))⟩
def rSortB : List V → Hp → VK → Prop := fun vs H Q => ∃ (p a : Addr) (ps : List Ent), vs = [.ref p] ∧ H p = some (DX.itemsO p a) ∧ Rd H a (.dT (ps.map entB)) ∧
  ∀ (H' : Hp) (l : Addr) (zs : List (Addr × Ent)), (∀ b o, H b = some o → H' b = some o) → zs.map (·.2) = sortB ps → H l = none → H' l = some (.lst (zs.map fun z => V.ref z.1)) →
    (∀ z ∈ zs, ∃ q, H' z.1 = some (.tup [.ref q, .int z.2.2]) ∧ H' q = some (.tup (z.2.1.map V.int))) → Q (.ref l) H'
/-- a pair that was made of a book's entry: its address, the entry, the key's address -/
abbrev Made1 := Addr × Ent × Addr
def Laid1 (H : Hp) (h : Heap) (z : Made1) : Prop := H z.2.2 = some (.tup (z.2.1.1.map V.int)) ∧ ∃ t, h.get? z.1 = some { cls := .type "tuple", data := .seq #[Value.ref z.2.2, Value.int z.2.1.2 t] }
/-- one address, one pair -/
theorem Laid1.same {H : Hp} {h : Heap} {z z' : Made1} (l : Laid1 H h z) (l' : Laid1 H h z') (e : z'.1 = z.1) : [V.ref z'.2.2, V.int z'.2.1.2] = [V.ref z.2.2, V.int z.2.1.2] := by
  obtain ⟨_, _, g⟩ := l
  obtain ⟨_, _, g'⟩ := l'
  rw [e, g] at g'
  injection g' with g'
  simp at g'
  rw [g'.1, g'.2.1]
/-- a pair read as data -/
theorem Laid1.reads {P : Program} {w : World} {H : Hp} {h0 h h' : Heap} {z : Made1} (ok : HOk P w H h0) (k0 : ∀ b o, h0.get? b = some o → h'.get? b = some o) (k : ∀ b o, h.get? b = some o → h'.get? b = some o) (l : Laid1 H h z) : Reads h' (.ref z.1) (encB z.2.1) [] := by
  obtain ⟨key, t, g⟩ := l
  obtain ⟨_, its, rv, ot, e, c, n, d⟩ := (show ObjOk P w H h0 z.2.2 (.tup (z.2.1.1.map V.int)) from ok _ _ key)
  have rk : Reads h' (.ref z.2.2) (.tuple (z.2.1.1.map .int)) [] := Reads.tuple (k0 _ _ e) c d (by simpa using reads_ints rv)
  exact Reads.tuple (k _ _ g) rfl rfl (.cons (as := []) (bs := []) rk (.cons (as := []) (bs := []) (.int _ _) .nil))
theorem cr_sortB (hc : X.calm = true) (hu : X.A.units + 64 < cLine) : CallR X (.builtin "sorted") rSortB := by
  rintro pins s σ H _ us Q I r ⟨p, a, ps, rfl, hp, ha, q⟩
  obtain rfl := Vals.ref1 r
  obtain ⟨fits, hd, xs, rel, o, es, ep, ho, hx, hdat, hes, -, -⟩ := dt_rd I.hok ha
  have n1 := Paired.length rel
  have n2 := size_of_entries hes
  rw [List.length_map] at n1 fits
  refine DT.sortedI (es := es) (ep := ep) (I.ok.hd hc) (show ObjOk X.prog X.w H s.heap p (DX.itemsO p a) from I.hok p _ hp).1 ⟨o, ho, hx, hdat⟩ (by omega) fun h' tk as old hlt hl made => ?_
  -- the pairs, each with its entry
  obtain ⟨bs, rfl, rfl, laid⟩ := pick_all (P := fun b e kq => Laid1 H h' (b, e, kq)) as ps (by omega) fun j b e hb he => by
    obtain ⟨en, at_, g⟩ := made.pairs j b hb
    obtain ⟨x, hxj, rfl⟩ := Option.map_eq_some_iff.mp ((entry_at hes j).symm.trans at_)
    obtain ⟨_, he', rk, rk', rv⟩ := DX.pget rel hxj
    rw [List.getElem?_map, he] at he'
    cases he'
    obtain ⟨t, ht⟩ := rv
    refine ⟨x.2.1, by rw [← DN.kI_V]; exact rk', t, ?_⟩
    rw [g, ← ht]
    rfl
  rw [List.length_map] at fits hl n1
  rw [List.map_map]
  have low : ∀ z ∈ bs, s.heap.objs.size ≤ z.1 := fun z hz => Nat.le_of_lt (made.above _ (List.mem_map_of_mem hz))
  -- the list of them, sorted
  have isL : (h'.push { cls := .type "list", data := .seq (bs.map (Value.ref ∘ fun z => z.1)).toArray }).get? h'.objs.size = some (seqObj "list" (bs.map (Value.ref ∘ fun z => z.1)).toArray 0) := Heap.get?_push_size _ rfl
  have kp : ∀ b o, h'.get? b = some o → (h'.push { cls := .type "list", data := .seq (bs.map (Value.ref ∘ fun z => z.1)).toArray }).get? b = some o := fun b o e => Heap.get?_push_of_some _ e
  have reads : EachIs (fun v (z : Made1) => ∃ as, Reads (h'.push { cls := .type "list", data := .seq (bs.map (Value.ref ∘ fun z => z.1)).toArray }) v (encB z.2.1) as ∧ h'.objs.size ∉ as) (bs.map (Value.ref ∘ fun z => z.1)) bs :=
    (each_mem (each_fn _ bs)).mono fun v z hv => ⟨[], hv.1 ▸ (laid z hv.2).reads I.hok (fun b o e => kp b o (old b o e)) kp, nofun⟩
  have flat : ∀ z ∈ bs, X.A.in1.units + 1 + (encB z.2.1).depth < cLine := fun z _ => by
    show X.A.units + 1 + 1 + (encB z.2.1).depth < cLine
    have two : (encB z.2.1).depth = 2 := by
      unfold encB
      simp [PyData.depth, PyData.depthAll, depth_ints]
    omega
  refine list_sort_data (s := { s with heap := h'.push { cls := .type "list", data := .seq (bs.map (Value.ref ∘ fun z => z.1)).toArray }, toks := tk }) (bs := bs) (enc := fun z => encB z.2.1) isL (each_fn _ bs) reads
    (AllAlike.of fun b b' => by unfold encB; simp [PySem.W.alike, PySem.W.alikeAll, alike_ints]) (Sortable.tuples fun b => ⟨_, _, rfl⟩) (by omega) flat fun out _ sorted => ?_
  have perm : (bs.mergeSort (dataLe false fun z : Made1 => encB z.2.1)).Perm bs := List.mergeSort_perm ..
  have order : (bs.mergeSort (dataLe false fun z : Made1 => encB z.2.1)).map (fun z => z.2.1) = sortB (bs.map fun z => z.2.1) := List.map_mergeSort fun _ _ _ _ => rfl
  generalize bs.mergeSort (dataLe false fun z : Made1 => encB z.2.1) = zs at sorted perm order
  have all : ∀ {z}, z ∈ zs ↔ z ∈ bs := perm.mem_iff
  obtain rfl := fn_each sorted
  -- the heap behind it
  obtain ⟨n, there⟩ := sortedHeap_at (out := (zs.map (Value.ref ∘ fun z => z.1)).toArray) isL
  have kf : ∀ b o, h'.get? b = some o → (sortedHeap (h'.push { cls := .type "list", data := .seq (bs.map (Value.ref ∘ fun z => z.1)).toArray }) h'.objs.size (bs.map (Value.ref ∘ fun z => z.1)) (zs.map (Value.ref ∘ fun z => z.1)).toArray).get? b = some o :=
    fun b o e => (sortedHeap_old (Nat.ne_of_lt (Heap.lt_size e)) (Heap.lt_size (kp b o e))).trans (kp b o e)
  have free := I.hok.fresh (Nat.le_of_lt hlt)
  have J := (I.kept (t' := tk) fun b o e => kf b o (old b o e)).take (t' := tk) (o := .lst (zs.map fun z => V.ref z.1)) (fun _ _ _ => id) (I.fpOk (Nat.le_of_lt hlt) free)
    ⟨by rw [List.length_map, perm.length_eq]; omega, _, n, vals_maps (fun z : Made1 => V.ref z.1) (Value.ref ∘ fun z => z.1) zs fun _ _ => rfl, there⟩
  obtain ⟨H', J', more, tups⟩ := DX.takeT (P := fun b vs => ∀ z ∈ bs, z.1 = b → vs = [.ref z.2.2, .int z.2.1.2]) I (bs.map fun z : Made1 => z.1) _ J (show List.Nodup (bs.map fun z : Made1 => z.1) from made.rise.imp fun h => Nat.ne_of_lt h) fun b hb => by
    obtain ⟨z, hz, rfl⟩ := List.mem_map.mp hb
    obtain ⟨_, t, g⟩ := laid z hz
    have later := low z hz
    refine ⟨later, (upd_ne (Nat.ne_of_lt (Heap.lt_size g))).trans (I.hok.fresh later), _, fun z' hz' e => ((laid z hz).same (laid z' hz') e).symm, fun _ => ⟨(by rw [sizeLine_eq]; exact (by decide : 2 ≤ 16777216)), [Value.ref z.2.2, Value.int z.2.1.2 t], .cons rfl (.cons ⟨t, rfl⟩ .nil), _, kf _ _ g, rfl, 0, rfl⟩⟩
  have up : ∀ b o, H b = some o → H' b = some o := fun b o e => more b o ((upd_ne (ne_of_none e free)).trans e)
  refine ⟨.ref h'.objs.size, H', J', rfl, q H' h'.objs.size (zs.map fun z => (z.1, z.2.1)) up ?_ free ?_ fun y hy => ?_⟩
  · rw [List.map_map]
    exact order
  · rw [List.map_map]
    exact more _ _ upd_same
  · obtain ⟨z, hz, rfl⟩ := List.mem_map.mp hy
    obtain ⟨vs, e, k⟩ := tups z.1 (List.mem_map_of_mem (all.mp hz))
    rw [e z (all.mp hz) rfl] at k
    exact ⟨z.2.2, k, up _ _ (laid z (all.mp hz)).1⟩
end
end L2
namespace L2
open PySem PySem.Spec PyProof.Rows
theorem pe_items {X : Cx} {o : Expr} {apos cpos : Pos} {to : TE} (ho : PE X o to) (hbase : attributeBase o "items" X.env (eval o X.env) = eval o X.env := by rfl) (hline : (apos.endLine == cpos.line) = true := by rfl) :
    PE X (.Call (.Attribute o "items" apos) [] [] cpos) (fun σ H Q => to σ H fun x H1 => rItemsR x [] H1 Q) := by
  refine ⟨fun pins s σ H Q I h => ?_⟩
  refine wpAny_Call_method0_late hbase hline (thn (ho.run pins s σ H _ I h) fun v s1 ⟨x, H1, I1, r1, q1⟩ => ?_)
  obtain ⟨a, kvs, ex, _, ha, _⟩ := id q1
  subst ex
  obtain rfl : v = .ref a := r1
  obtain ⟨h1, h2, _⟩ := isD_at I1 (.inr ⟨kvs, ha⟩)
  exact ⟨"dict", "dict.items", PySem.F.plainAttrs_dict, PySem.F.slot_dict_items, PySem.F.type_dict_items, h1, h2, Calls.callWith_builtin rfl (PySem.evalArgs_none (mt_itemsR pins s1 σ H1 (.ref a) [] (.ref a) [] Q I1 rfl .nil q1))⟩
end L2
namespace DN
open PySem PySem.Spec PyProof.Rows L2
open LamX (Tabs ExtN)
def vNum : V → Option Int
  | .int n => some n
  | _ => none
def ents : List (List Key × V) → Option (List Ent)
  | [] => some []
  | q :: r => (intsOf q.1).bind fun l => (vNum q.2).bind fun n => (ents r).map fun es => (l, n) :: es
theorem ents_ok : ∀ {kvs : List (List Key × V)} {es : List Ent}, ents kvs = some es → kvs = es.map entB
  | [], es, h => by cases h; rfl
  | q :: r, es, h => by
    obtain ⟨l, h1, h2⟩ := Option.bind_eq_some_iff.mp h
    obtain ⟨n, h3, h4⟩ := Option.bind_eq_some_iff.mp h2
    obtain ⟨es', h5, h6⟩ := Option.map_eq_some_iff.mp h4
    subst h6
    obtain ⟨k, v⟩ := q
    obtain rfl : v = .int n := by
      cases v <;> first | (cases h3; rfl) | cases h3
    rw [List.map_cons, ← ents_ok h5]
    show (k, _) :: r = (kI l, _) :: r
    rw [← intsOf_ok (k := k) h1]
def entD (e : Ent) : D := .tup [.pw e.1, .int e.2]
def sortedD (f : Rho → Res D) : Rho → Res D := fun ρ => (f ρ).bind fun d => match d with
  | .dT kvs => ofO ((ents kvs).map fun es => .lst ((sortB es).map entD))
  | _ => .bad
theorem Nx.extH {T : List (Addr × Str)} {F H H' : Hp} (z : Fz F H) (g : ∀ b o, H b = some o → H' b = some o) : Nx T F H F H' :=
  ⟨Sub.refl F, ⟨fun a o e => g _ _ (z.sub _ _ e), z.nt⟩, fun b o e _ => g _ _ e, fun a o e => .inl e, fun t => t.ext fun b o e => g _ _ e⟩
theorem Nx.adoptL {T : List (Addr × Str)} {F H F' H' : Hp} {l : Addr} {o : HO} (n : Nx T F H F' H') (hl : H l = none) (h : H' l = some o) (nt : ∀ ps, o ≠ .tbl ps) : Nx T F H (upd F' l o) H' := by
  have sb : Sub F' (upd F' l o) := fun a u e => by
    by_cases ha : a = l
    · subst ha
      have := n.z.sub _ _ e
      rw [h] at this; cases this
      exact upd_same
    · rw [upd_ne ha]; exact e
  refine ⟨n.f.trans sb, ⟨fun a u e => ?_, fun a ps e => ?_⟩, n.h, fun a u e => ?_, n.tab⟩
  · by_cases ha : a = l
    · subst ha; rw [upd_same] at e; cases e; exact h
    · rw [upd_ne ha] at e; exact n.z.sub _ _ e
  · by_cases ha : a = l
    · subst ha; rw [upd_same] at e; cases e; exact nt ps rfl
    · rw [upd_ne ha] at e; exact n.z.nt _ _ e
  · by_cases ha : a = l
    · subst ha
      exact .inr fun o' e' => by rw [hl] at e'; cases e'
    · rw [upd_ne ha] at e; exact n.new a u e
theorem adopt_ents {K : PySem.W.Frag} {T : List (Addr × Str)} {F H' : Hp} : ∀ (zs : List (Addr × Ent)) {F1 : Hp}, Fz F1 H' → (∀ z ∈ zs, ∃ q, H' z.1 = some (.tup [.ref q, .int z.2.2]) ∧ H' q = some (.tup (z.2.1.map V.int))) →
    ∃ F2, Nx T F1 H' F2 H' ∧ RpAll K F2 (zs.map fun z => V.ref z.1) ((zs.map (·.2)).map entD)
  | [], F1, z, _ => ⟨F1, Nx.refl z, .nil⟩
  | e :: zs, F1, z, h => by
    obtain ⟨q, h1, h2⟩ := h e (List.mem_cons_self ..)
    have n1 : Nx T F1 H' (upd F1 q _) H' := Nx.adopt z h2
    have n2 : Nx T (upd F1 q (.tup (e.2.1.map V.int))) H' (upd (upd F1 q (.tup (e.2.1.map V.int))) e.1 _) H' := Nx.adopt n1.z h1
    obtain ⟨F2, n3, r⟩ := adopt_ents (K := K) (F := F) zs n2.z fun z hz => h z (List.mem_cons_of_mem _ hz)
    exact ⟨F2, (n1.trans n2).trans n3, .cons (.tup (.inl (.inl (n3.f _ _ upd_same))) (.cons (.pw ((n2.trans n3).f _ _ upd_same)) (.cons (.int _) .nil))) r⟩
section
variable {X : Cx} {T : List (Addr × Str)} {W : WX}
theorem e_sortedB {x : Str} {o : Expr} {p apos ipos cpos : Pos} {f : Rho → Res D} (hc : X.calm = true) (hu : X.A.units + 64 < cLine) (hg : Gl X x) (hm : X.mg x = none) (hv : bootBuiltins x = some (.builtin "sorted")) (ho : DE X T W o f)
    (hbase : attributeBase o "items" X.env (eval o X.env) = eval o X.env := by rfl) (hline : (apos.endLine == ipos.line) = true := by rfl)
    (hn : x ≠ "__name__" := by decide) (hdb : (x == ("__debug__" : Str)) = false := by decide) (hpl : starEach [.Call (.Attribute o "items" apos) [] [] ipos] X.env = (false, eval (.Call (.Attribute o "items" apos) [] [] ipos) X.env) :: starEach [] X.env := by rfl) (hpl2 : (backTo cpos (starEach [] X.env)).any (·.1) = false := by rfl) :
    DE X T W (.Call (.Name x p) [.Call (.Attribute o "items" apos) [] [] ipos] [] cpos) (sortedD f) :=
  (pe_callB (cr_sortB hc hu) hg hm hv (pa_cons (pe_items ho hbase hline) pa_nil) hn hdb hpl hpl2).to fun σ H Q ⟨ρ, F, a, h⟩ => by
    refine ⟨ρ, F, a, (aft.bind (R := Rp X.K) h).imp fun _ _ v F1' H1 _ _ q => ?_⟩
    obtain ⟨d, F1, _, n, rv, q⟩ := q
    cases rv with
    | @dT a' kvs hf =>
      obtain ⟨od, hf⟩ := hf
      obtain ⟨z, hz, q'⟩ := ofO_ok (show aft (Rp X.K) X.K T W σ F1 H1 Q (ofO ((ents kvs).map fun es => .lst ((sortB es).map entD))) from q)
      obtain ⟨es, he, rfl⟩ := Option.map_eq_some_iff.mp hz
      obtain rfl := ents_ok he
      refine ⟨a', _, rfl, rfl, .inr ⟨od, n.z.sub _ _ hf⟩, fun p hp => ?_⟩
      have n1 : Nx T F1 H1 F1 (upd H1 p (DX.itemsO p a')) := Nx.lay n.z hp
      refine ⟨p, a', es, rfl, upd_same, .inr ⟨od, n1.z.sub _ _ hf⟩, fun H' l zs gr hzs hl hl2 hp2 => ?_⟩
      have n2 : Nx T F1 H1 F1 H' := n1.trans (Nx.extH n1.z gr)
      obtain ⟨F2, n3, r⟩ := adopt_ents (K := X.K) (T := T) (F := F1) zs n2.z hp2
      have hl1 : H1 l = none := by
        by_cases e : l = p
        · subst e; exact hp
        · rw [upd_ne e] at hl; exact hl
      have n4 := (n2.trans n3).adoptL hl1 hl2 ntL
      refine q' (.ref l) _ H' n4 ?_
      rw [← hzs]
      have sb : Sub F2 (upd F2 l (.lst (zs.map fun z => V.ref z.1))) := fun a u e => by
        by_cases ha : a = l
        · subst ha
          have := n3.z.sub _ _ e
          rw [hl2] at this; cases this
          exact upd_same
        · rw [upd_ne ha]; exact e
      exact .lst upd_same (r.mono sb)
    | _ => exact q.elim
end
end DN
/-! tuple(sorted(..)) with its object known; dict of such a tuple -/
namespace L2
open PySem PySem.Spec PyProof.Rows PySem.W
def mergeB (es : List Ent) : List (List Key × V) := es.foldl (fun acc e => putK acc (DN.kI e.1) (.int e.2)) []
/-- a pair's address, its key's, the entry -/
abbrev Pt := Addr × Addr × Ent
def rDictF (K : PySem.W.Frag) : List V → Hp → VK → Prop := fun xs H Q => ∃ (a : Addr) (o : Obj) (zs : List Pt), xs = [.ref a] ∧ o.cls = .type "tuple" ∧ o.dict = none ∧ H a = some (.frz o (.tup (zs.map fun z => V.ref z.1))) ∧
  (∀ z ∈ zs, SqT K H z.1 [.ref z.2.1, .int z.2.2.2] ∧ H z.2.1 = some (.tup (z.2.2.1.map V.int))) ∧ ∀ p, H p = none → ∀ od, Q (.ref p) (upd H p (.frz od (.dT (mergeB (zs.map (·.2.2))))))
def PtR (h : Heap) (z : Pt) (q : List Key × Addr × Value) : Prop := q.1 = DN.kI z.2.2.1 ∧ q.2.1 = z.2.1 ∧ RelV (.int z.2.2.2) q.2.2 ∧ PairAt h z.1 (.ref z.2.1) q.2.2
theorem pts_of {X : Cx} {pins : List (Addr × Obj)} {σ : St} {H : Hp} {s : Shared} (I : Inv X pins σ H s) : ∀ (zs : List Pt), (∀ z ∈ zs, SqT X.K H z.1 [.ref z.2.1, .int z.2.2.2] ∧ H z.2.1 = some (.tup (z.2.2.1.map V.int))) → ∃ qs, Paired (PtR s.heap) zs qs
  | [], _ => ⟨[], .nil⟩
  | z :: zs, h => by
    obtain ⟨qs, r⟩ := pts_of I zs fun y hy => h y (List.mem_cons_of_mem _ hy)
    obtain ⟨h1, h2⟩ := h z (List.mem_cons_self ..)
    obtain ⟨its, rv, it, _⟩ := I.tuple h1
    cases rv with
    | cons r1 rt =>
      cases rt with
      | cons r2 rt =>
        cases rt
        cases r1
        obtain ⟨o, ho, hc, n, hd⟩ := it
        exact ⟨(DN.kI z.2.2.1, z.2.1, _) :: qs, .cons ⟨rfl, rfl, r2, .inl ⟨o, ho, hc, n, hd⟩⟩ r⟩
theorem pt_get {h : Heap} : ∀ {zs : List Pt} {qs : List (List Key × Addr × Value)} {j : Nat} {q : List Key × Addr × Value}, Paired (PtR h) zs qs → qs[j]? = some q → ∃ z, zs[j]? = some z ∧ PtR h z q := fun r e => DX.pget r e
theorem KT_stored {h : Heap} {H : Hp} : ∀ {zs : List Pt} {qs : List (List Key × Addr × Value)} {kvs : List (List Key × V)} {xs : List (List Key × Addr × Value)}, Paired (PtR h) zs qs → (∀ z ∈ zs, H z.2.1 = some (.tup (z.2.2.1.map V.int))) → KT H kvs xs →
    KT H ((zs.map (·.2.2)).foldl (fun acc e => putK acc (DN.kI e.1) (.int e.2)) kvs) (storedAllH xs qs)
  | _, _, _, _, .nil, _, r => r
  | z :: zs, q :: qs, kvs, xs, .cons hz t, hk, r => by
    obtain ⟨k1, k2, k3, _⟩ := hz
    obtain ⟨k, b, u⟩ := q
    obtain rfl : k = DN.kI z.2.2.1 := k1
    obtain rfl : b = z.2.1 := k2
    exact KT_stored (zs := zs) (qs := qs) t (fun y hy => hk y (List.mem_cons_of_mem _ hy)) (r.put _ (by rw [DN.kI_V]; exact hk z (List.mem_cons_self ..)) k3)
theorem vals_refs {α : Type} {f : α → Addr} : ∀ (zs : List α) {its : List Value}, Vals (zs.map fun z => V.ref (f z)) its → its = zs.map fun z => Value.ref (f z)
  | [], _, r => by cases r; rfl
  | z :: zs, _, r => by
    cases r with
    | cons h t =>
      cases h
      rw [List.map_cons, vals_refs zs t]
theorem call_dictF {X : Cx} (hc : X.calm = true) (hu : X.A.units + 64 < cLine) : CallR X (.type "dict") (rDictF X.K) := by
  intro pins s σ H xs us Q I r h
  obtain ⟨a, o, zs, rfl, ocl, odi, ha, hz, q⟩ := h
  obtain rfl := Vals.ref1 r
  obtain ⟨ho, hzz, its, rv, it⟩ := (show ObjOk X.prog X.w H s.heap a (.frz o (.tup (zs.map fun z => V.ref z.1))) from I.hok a _ ha)
  obtain ⟨qs, rel⟩ := pts_of I zs hz
  have st : (tupleKind (mixKind X.prog X.w)).Stays := tupleKind_stays
  have lq : zs.length = qs.length := Paired.length rel
  rw [List.length_map] at hzz
  obtain rfl := vals_refs (f := fun z : Pt => z.1) zs rv
  obtain ⟨o', ho', hc', n, hd'⟩ := it
  obtain rfl : o = o' := Option.some.inj (ho.symm.trans ho')
  have hh : X.A.handled = none := I.ok.hd hc
  have pl : (qs.map fun q => (Value.ref q.2.1, q.2.2)).length = qs.length := List.length_map ..
  refine call_dict_pairsH (knd := tupleKind (mixKind X.prog X.w)) (ps := qs) (PairArg.tuple a (zs.map fun z => Value.ref z.1).toArray (fun j => (zs[j]?.map (·.1)).getD 0) (qs.map fun q => (Value.ref q.2.1, q.2.2))) hh (show X.A.units + 1 + 1 < cLine by omega)
    ⟨⟨o, n, ho, ocl, odi, hd'⟩, by rw [pl]; simpa using lq, fun j k v e => ?_⟩ ⟨pl.symm, fun i key v e => ?_⟩ (fun h' hk x hx => ?_) (by rw [pl]; omega) fun h' tk hd2 hk => ?_
  · rw [List.getElem?_map] at e
    obtain ⟨x, hx, e⟩ := Option.map_eq_some_iff.mp e
    cases e
    obtain ⟨z, hz1, p1, p2, p3, p4⟩ := pt_get rel hx
    refine ⟨by simp [hz1], ?_⟩
    rw [p2]
    show PairAt s.heap ((zs[j]?.map (·.1)).getD 0) _ _
    rw [hz1]
    exact p4
  · rw [show PairRel (qs.map fun q => (Value.ref q.2.1, q.2.2)) i key v = ((qs.map fun q => (Value.ref q.2.1, q.2.2))[i]? = some (key, v)) from rfl, List.getElem?_map] at e
    obtain ⟨x, hx, e⟩ := Option.map_eq_some_iff.mp e
    cases e
    exact ⟨x.1, x.2.1, hx, rfl⟩
  · obtain ⟨j, hj⟩ := List.mem_iff_getElem?.mp hx
    obtain ⟨z, hz1, p1, p2, _⟩ := pt_get rel hj
    have hkey := key_of (ks := x.1) I.hok (a := x.2.1) (by rw [p1, p2, DN.kI_V]; exact (hz z (List.mem_of_getElem? hz1)).2)
    exact st.stays (fun b ob _ _ e _ => hk b ob (Nat.ne_of_lt (Heap.lt_size e)) (fun y => nomatch y) e) hkey
  · have hn0 : H s.heap.objs.size = none := I.hok.fresh (Nat.le_refl _)
    have hm : (s.heap.objs.size == sysModules) = false := beq_eq_false_iff_ne.mpr (Nat.ne_of_gt I.big)
    have kt : KT (upd H s.heap.objs.size (.dT (mergeB (zs.map (·.2.2))))) (mergeB (zs.map (·.2.2))) (storedAllH [] qs) :=
      KT_stored rel (fun z hz' => by rw [upd_ne (ne_of_none (hz z hz').2 hn0)]; exact (hz z hz').2) .nil
    have I1 : Inv X pins σ (upd H s.heap.objs.size (.dT (mergeB (zs.map (·.2.2))))) { s with heap := h', toks := tk } := I.laid (t' := tk) (fun b u e => hk b u (fun y => nomatch y) e) (Nat.le_refl _) (by
      obtain ⟨ob, es, ep, g1, g2, g3, g4, g5, g6⟩ := hd2
      refine ⟨?_, hm, storedAllH [] qs, kt, ob, es, ep, g1, g2, g3, g4, g6⟩
      have e1 := storedAllH_length qs ([] : List (List Key × Addr × Value))
      rw [List.length_nil] at e1
      rw [Paired.length kt]
      omega)
    obtain ⟨od, I2⟩ := I1.lock upd_same True.intro
    rw [upd_upd] at I2
    exact ⟨.ref s.heap.objs.size, _, I2, rfl, q _ hn0 od⟩
end L2
namespace DN
open PySem PySem.Spec PyProof.Rows L2
open LamX (Tabs ExtN)
def entF : D → Option Ent
  | .tup [.pw k, .int n] => some (k, n)
  | _ => none
def entsF : List D → Option (List Ent)
  | [] => some []
  | d :: ds => (entF d).bind fun e => (entsF ds).map fun es => e :: es
theorem entsF_ok {K : PySem.W.Frag} {F : Hp} : ∀ {vs : List V} {ds : List D} {es : List Ent}, RpAll K F vs ds → entsF ds = some es →
    ∃ zs : List Pt, zs.map (·.2.2) = es ∧ vs = zs.map (fun z => V.ref z.1) ∧ ∀ z ∈ zs, SqT K F z.1 [.ref z.2.1, .int z.2.2.2] ∧ F z.2.1 = some (.tup (z.2.2.1.map V.int))
  | _, _, es, .nil, h => by cases h; exact ⟨[], rfl, rfl, fun z hz => nomatch hz⟩
  | _, _, es, .cons (d := d) hv t, h => by
    obtain ⟨e, h1, h2⟩ := Option.bind_eq_some_iff.mp h
    obtain ⟨es', h3, rfl⟩ := Option.map_eq_some_iff.mp h2
    obtain ⟨zs, z1, z2, z3⟩ := entsF_ok t h3
    unfold entF at h1
    split at h1
    · rename_i k n
      cases h1
      cases hv with
      | @tup a xs _ hs hr =>
        cases hr with
        | cons r1 hr =>
          cases hr with
          | cons r2 hr =>
            cases hr
            cases r1 with
            | @pw b _ hb =>
              cases r2
              refine ⟨(a, b, (k, n)) :: zs, by rw [List.map_cons, z1], by rw [List.map_cons, z2], fun z hz => ?_⟩
              rcases List.mem_cons.mp hz with rfl | hz
              · exact ⟨hs, hb⟩
              · exact z3 z hz
    · cases h1
def dictFD (f : Rho → Res (List D)) : Rho → Res D := fun ρ => (f ρ).bind fun ds => match ds with
  | [.frm ds] => ofO ((entsF ds).map fun es => .dT (mergeB es))
  | _ => .bad
def tupF : List D → Option D
  | [.lst ds] => some (.frm ds)
  | _ => none
section
variable {X : Cx} {T : List (Addr × Str)} {W : WX}
theorem e_dictF {e : Expr} {x : Str} {p cpos : Pos} {f : Rho → Res (List D)} (hc : X.calm = true) (hu : X.A.units + 64 < cLine) (hb : Gl X x) (hm : X.mg x = none) (hv : bootBuiltins x = some (.type "dict")) (ha : DA X T W [e] f)
    (hn : x ≠ "__name__" := by decide) (hdb : (x == ("__debug__" : Str)) = false := by decide) (hpl : starEach [e] X.env = (false, eval e X.env) :: starEach [] X.env := by rfl) (hpl2 : (backTo cpos (starEach [] X.env)).any (·.1) = false := by rfl) :
    DE X T W (.Call (.Name x p) [e] [] cpos) (dictFD f) :=
  (pe_callTy (call_dictF hc hu) hb hm hv ha hn hdb hpl hpl2).to fun σ H Q ⟨ρ, F, a, h⟩ => by
    refine ⟨ρ, F, a, (aft.bind (R := RpAll X.K) h).imp fun _ _ vs F1' H1 _ _ q => ?_⟩
    obtain ⟨ds, F1, _, n, rv, q⟩ := q
    split at q
    · rename_i ds' _
      obtain ⟨v, rfl, rw0⟩ := all1 rv
      obtain ⟨z, hz, q'⟩ := ofO_ok q
      obtain ⟨es, he, rfl⟩ := Option.map_eq_some_iff.mp hz
      cases rw0 with
      | @frm a' xs _ ho hr =>
        obtain ⟨o, o1, o2, o3⟩ := ho
        obtain ⟨zs, z1, z2, z3⟩ := entsF_ok hr he
        refine ⟨a', o, zs, rfl, o1, o2, by rw [← z2]; exact n.z.sub _ _ o3, fun z hz' => ⟨n.z.sub.st (z3 z hz').1, n.z.sub _ _ (z3 z hz').2⟩, fun p hp od => ?_⟩
        rw [z1]
        exact q' _ (upd F1 p (.frz od (.dT (mergeB es)))) _ (Nx.push n.z hp ntF) (.dT ⟨od, upd_same⟩)
    · exact q.elim
theorem c_tupF : CallR X (.type "tuple") (rDn X.K T tupF) := by
  intro pins s σ H xs us Q I r h
  obtain ⟨F, ds, z, hz, rs, hG, q⟩ := h
  unfold tupF at hG
  split at hG
  · rename_i ds
    obtain ⟨v, rfl, rv⟩ := all1 rs
    cases hG
    cases rv with
    | @lst pa xs0 _ h1 r1 =>
      obtain ⟨u, rfl, rx⟩ := vals1 r
      cases rx
      obtain ⟨its, r', pl, hzz⟩ := I.list (SqL.of (hz.sub _ _ h1))
      have hlen := r'.length
      refine call_tuple_list pl.isList (fun h' kp => ?_) (by simp only [List.size_toArray] <;> omega)
      have I1 : Inv X pins σ H { s with heap := h' } := I.kept (t' := s.toks) kp
      have I2 := I1.laid (a := h'.objs.size) (o := .frz { cls := .type "tuple", data := .seq its.toArray } (.tup xs0)) (h' := h'.push { cls := .type "tuple", data := .seq its.toArray }) (t' := s.toks) (fun b o e => Heap.get?_push_of_some _ e) (Nat.le_refl _) ⟨Heap.get?_push_size _ rfl, hzz, its, r', IsTup.new _ _⟩
      have hf := I1.hok.fresh (Nat.le_refl h'.objs.size)
      have n1 := Nx.push (T := T) hz hf (o := .frz { cls := .type "tuple", data := .seq its.toArray } (.tup xs0)) ntF
      exact ⟨.ref h'.objs.size, _, I2, rfl, q _ _ _ n1 (.frm ⟨_, rfl, rfl, upd_same⟩ (r1.mono n1.f))⟩
  · cases hG
end
end DN
namespace DN
open PySem PySem.Spec PyProof.Rows L2 PySem.W
open LamX (Tabs ExtN)
end DN
namespace DN
theorem lt0 {a c : Nat} (h : a + 64 < c) : a < c := by omega
theorem lt2 {a c : Nat} (h : a + 64 < c) : a + 2 < c := by omega
end DN
/-! is, is not of two truths -/
namespace DN
open PySem PySem.Spec PyProof.Rows L2
def isBl : D → D → Option D
  | .bl a, .bl b => some (.bl (a == b))
  | _, _ => none
def isNotBl : D → D → Option D
  | .bl a, .bl b => some (.bl (!(a == b)))
  | _, _ => none
theorem bl_beq (a b : Bool) : (Value.bool a == Value.bool b) = (a == b) := by cases a <;> cases b <;> rfl
theorem o_isB {X : Cx} {T : List (Addr × Str)} : OpR X (compareOp .Is) (rD2 X.K T isBl) := fun pins s σ H x y v u Q I rx ry ⟨F, d, e, z, hz, rd, re, hG, q⟩ => by
  cases rd with
  | bl a =>
    cases re with
    | bl b =>
      cases hG
      cases rx
      cases ry
      exact wpAny_is_plain rfl (fin_bl I (done0 hz q (.bl (a == b))) (bl_beq a b).symm)
    | _ => cases hG
  | _ => cases hG
theorem o_isNotB {X : Cx} {T : List (Addr × Str)} : OpR X (compareOp .IsNot) (rD2 X.K T isNotBl) := fun pins s σ H x y v u Q I rx ry ⟨F, d, e, z, hz, rd, re, hG, q⟩ => by
  cases rd with
  | bl a =>
    cases re with
    | bl b =>
      cases hG
      cases rx
      cases ry
      exact wpAny_isNot_plain rfl (fin_bl I (done0 hz q (.bl (!(a == b)))) (congrArg not (bl_beq a b).symm))
    | _ => cases hG
  | _ => cases hG
end DN
/-! a tuple times any small number: none and once by DN42, more by DN1 -/
namespace DN
open PySem PySem.Spec PyProof.Rows L2
def mulAD (d e : D) : Option D := match mul01D d e with
  | some z => some z
  | none => mulD d e
theorem o_mulA {X : Cx} {T : List (Addr × Str)} : OpR X (binaryOp .Mult) (rD2 X.K T mulAD) := fun pins s σ H x y v u Q I rx ry ⟨F, d, e, z, hz, rd, re, hG, q⟩ => by
  unfold mulAD at hG
  cases h : mul01D d e with
  | some z' =>
    rw [h] at hG
    exact o_mul01 pins s σ H x y v u Q I rx ry ⟨F, d, e, z, hz, rd, re, h.trans hG, q⟩
  | none =>
    rw [h] at hG
    exact o_mul pins s σ H x y v u Q I rx ry ⟨F, d, e, z, hz, rd, re, hG, q⟩
end DN
namespace LW
open PySem PySem.Spec PyProof.Rows L2 DN
open TL (numL numL_lt numL_step numL_digits numL_ne tl_num)

/-! ### figures of whole numbers -/
end LW
namespace LW
open PySem PySem.Spec PyProof.Rows L2 DN
open TL (numL numL_lt numL_step numL_digits numL_ne tl_num)
/-! ### texts -/
theorem mul_si {x : Str} {n : Int} (h : n ≤ 1000000 ∧ -1000000 ≤ n ∧ x.length * n.toNat ≤ 1000000) : mulD (.str x) (.int n) = some (.str (repS x n)) := by
  show (if n ≤ 1000000 ∧ -1000000 ≤ n ∧ x.length * n.toNat ≤ 1000000 then some (D.str (repS x n)) else none) = _
  rw [if_pos h]
/-- one sign so often -/
theorem mul_one {s : String} {n : Int} (c : Nat) (h : Str.ofString s = ⟨#[c]⟩) (h1 : n ≤ 1000000) (h2 : -1000000 ≤ n) : mulD (.str (Str.ofString s)) (.int n) = some (.str (repS (Str.ofString s) n)) := mul_si ⟨h1, h2, by
  rw [h]
  show 1 * n.toNat ≤ 1000000
  omega⟩
end LW
namespace LW
open PySem PySem.Spec PyProof.Rows L2 DN
open TL (numL numL_lt numL_step numL_digits numL_ne tl_num)
/-! ### numbers' texts -/
def S (l : List Nat) : Str := ⟨l.toArray⟩
end LW
namespace LW
open PySem PySem.Spec PyProof.Rows L2 DN
/-! ### rounding, plainly -/
inductive Hw where | nought | more | even | away
  deriving DecidableEq
inductive Mn where | even | away | nought | up | down
  deriving DecidableEq
def Hw.s : Hw → Str
  | .nought => "nought" | .more => "more" | .even => "even" | .away => "away"
def Mn.s : Mn → Str
  | .nought => "nought" | .up => "up" | .down => "down" | .even => "even" | .away => "away"
def Mn.by : Mn → Bool → Hw
  | .up, false => .more | .up, true => .nought | .down, false => .nought | .down, true => .more | .even, _ => .even | .away, _ => .away | .nought, _ => .nought
/-! the parts -/
end LW
namespace LW
open PySem PySem.Spec PyProof.Rows L2 DN
/-! ### rounding over the fractions -/
def T (p : Int) : Rat := (10 : Rat) ^ p
def vl (s : Int × Int) : Rat := (s.1 : Rat) * T s.2
/-! stripped -/
/-! the rounded value -/
/-! ### laws of rounding -/
def Mn.turn : Mn → Mn
  | .up => .down | .down => .up | .even => .even | .away => .away | .nought => .nought
/-! numbers are kept -/
/-! down and up -/
/-! as functions of the value -/
end LW
namespace LW
open PySem PySem.Spec PyProof.Rows L2 DN
/-! ### a sign sought in a text -/
end LW
namespace LW
open PySem PySem.Spec PyProof.Rows L2 DN
open TL (numL numL_lt numL_step numL_digits numL_ne tl_num)
open NumText (AllDigits digitsVal)
local macro_rules | `(tactic| walk_at "ev") => `(tactic| simp -implicitDefEqProofs (disch := first | omega | (simp only [List.length_cons, List.length_nil]; omega)) only [mkTR_ok, mkLR_ok, ix_tm, ix_lm, ix_t0, ix_t1, ix_t2, ix_t3, ix_t4, ix_t5, ix_t6, ix_t7, ix_l0, ix_l1, ix_l2, ix_l3, ix_l4, ix_l5, ix_l6, ix_l7, bin_def, una_def, cal_def, acons_def, anil_def, con_def, callD_def, tst_def, sseq_def, sret_def, sasg_def, sif_def, sskip_def, sraise_def, andQ_def, orQ_def, notQ_def, andE_def, orE_def, notE_def, mkT_def, mkL_def, slc_def, psm_def, pno_def, sfor_def, chn_def, var_zero, var_succ, app2_ok, app1_ok, appL_ok, consR_ok, ofO_some, call0, call1, call2, call3, call4, call5, tstR_ok, seqR_nx, seqR_rt, seqR_ex, retR_ok, retR_ex, asgR_n, asgR_ex, asgR_2, asgR_2L, asgR_3, ifR_t, ifR_f, finR_rt, finR_nx, finR_ex, andR_t, andR_f, orR_t, orR_f, notR_ok, andER_t, andER_f, orER_t, orER_f, notER_ok, psmR_ok, slcR_ok, forR_ok, chn_le, chn_lt, add_ii, sub_ii, neg_i, lt_ii, le_ii, gt_ii, ge_ii, eq_ii, ne_ii, eq_ss, ne_ss, eq_bb, ne_bb, mul_l, mul_r, div_s, mod_p, len_t, len_l, len_a, abs_i, max_ii, min_ii, int_i, int_b, int_t, int_f, List.set_cons_zero, List.set_cons_succ, Bool.not_true, Bool.not_false, decide_true, decide_false, sown_def, ownRR_ok, frz_lst, frz_z, frz_u, frz_succ, sfrz_def, bor_def, borQ_def, flat_i, flat_s, flat_b, flat_n, own_zero, own_succ, sapp_def, sput_def, ixO_def])
local macro_rules | `(tactic| simp?! [$ls,*]) => `(tactic| simp -implicitDefEqProofs (disch := first | omega | (simp only [List.length_cons, List.length_nil]; omega)) only [mkTR_ok, mkLR_ok, ix_tm, ix_lm, ix_t0, ix_t1, ix_t2, ix_t3, ix_t4, ix_t5, ix_t6, ix_t7, ix_l0, ix_l1, ix_l2, ix_l3, ix_l4, ix_l5, ix_l6, ix_l7, bin_def, una_def, cal_def, acons_def, anil_def, con_def, callD_def, tst_def, sseq_def, sret_def, sasg_def, sif_def, sskip_def, sraise_def, andQ_def, orQ_def, notQ_def, andE_def, orE_def, notE_def, mkT_def, mkL_def, slc_def, psm_def, pno_def, sfor_def, chn_def, var_zero, var_succ, app2_ok, app1_ok, appL_ok, consR_ok, ofO_some, call0, call1, call2, call3, call4, call5, tstR_ok, seqR_nx, seqR_rt, seqR_ex, retR_ok, retR_ex, asgR_n, asgR_ex, asgR_2, asgR_2L, asgR_3, ifR_t, ifR_f, finR_rt, finR_nx, finR_ex, andR_t, andR_f, orR_t, orR_f, notR_ok, andER_t, andER_f, orER_t, orER_f, notER_ok, psmR_ok, slcR_ok, forR_ok, chn_le, chn_lt, add_ii, sub_ii, neg_i, lt_ii, le_ii, gt_ii, ge_ii, eq_ii, ne_ii, eq_ss, ne_ss, eq_bb, ne_bb, mul_l, mul_r, div_s, mod_p, len_t, len_l, len_a, abs_i, max_ii, min_ii, int_i, int_b, int_t, int_f, List.set_cons_zero, List.set_cons_succ, Bool.not_true, Bool.not_false, decide_true, decide_false, sown_def, ownRR_ok, frz_lst, frz_z, frz_u, frz_succ, sfrz_def, bor_def, borQ_def, flat_i, flat_s, flat_b, flat_n, own_zero, own_succ, sapp_def, sput_def, ixO_def, $ls,*])
def N__law_cell_at : List Str := ["script", "k"]
def t1__law_cell_at : Rho → SR :=
  (sret (con (.int 0)))
def g__law_cell_at : Rho → SR :=
  sseq (sif (tst (bop ltD (var 1) (cal lenD (acons (var 0) anil)))) (sret (bop ixD (var 0) (var 1))) sskip) (t1__law_cell_at)
def d__law_cell_at (ds : List D) : Res D := runB 2 g__law_cell_at ds
theorem v__law_cell_at {a0 a1 : D} : d__law_cell_at [a0, a1] = finR (g__law_cell_at [.z a0, .z a1]) := runB_eq rfl
def N__law_mixed : List Str := ["script", "k", "drawn"]
def t1__law_mixed : Rho → SR :=
  (sret (bop modD (bop addD (bop addD (bop mulD (var 2) (var 2)) (bop mulD (con (.int 7)) (var 2))) (var 1)) (con (.int 2147483629))))
def g__law_mixed : Rho → SR :=
  sseq (sasg (bop modD (bop mulD (bop addD (bop addD (callD 2 d__law_cell_at (acons (var 0) (acons (var 1) anil))) (bop mulD (con (.int 7919)) (var 1))) (con (.int 1))) (con (.int 48271))) (con (.int 2147483647))) (gn 2)) (t1__law_mixed)
def d__law_mixed (ds : List D) : Res D := runB 3 g__law_mixed ds
theorem v__law_mixed {a0 a1 : D} : d__law_mixed [a0, a1] = finR (g__law_mixed [.z a0, .z a1, .u]) := runB_eq rfl
def N__law_drawn : List Str := ["number", "k", "drawn"]
def t1__law_drawn : Rho → SR :=
  (sret (bop modD (bop addD (bop addD (bop mulD (var 2) (var 2)) (bop mulD (con (.int 3)) (var 2))) (var 1)) (con (.int 2147483629))))
def g__law_drawn : Rho → SR :=
  sseq (sasg (bop modD (bop mulD (bop addD (bop addD (var 0) (bop mulD (con (.int 104729)) (var 1))) (con (.int 17))) (con (.int 69621))) (con (.int 2147483647))) (gn 2)) (t1__law_drawn)
def d__law_drawn (ds : List D) : Res D := runB 3 g__law_drawn ds
theorem v__law_drawn {a0 a1 : D} : d__law_drawn [a0, a1] = finR (g__law_drawn [.z a0, .z a1, .u]) := runB_eq rfl
def N_box_of : List Str := ["word"]
def t1_box_of : Rho → SR :=
  (sret (con .non))
def g_box_of : Rho → SR :=
  sseq (sif (andQ (tst (bop eqD (cal lenD (acons (var 0) anil)) (con (.int 4)))) (andQ (tst (bop inD (slc (var 0) pno (psm (con (.int 3)))) (mkT (acons (con (.str "put")) (acons (con (.str "get")) anil))))) (tst (bop inD (bop ixD (var 0) (con (.int 3))) (con (.str "012")))))) (sret (cal intD (acons (bop ixD (var 0) (con (.int 3))) anil))) sskip) (t1_box_of)
def d_box_of (ds : List D) : Res D := runB 1 g_box_of ds
def N_is_word : List Str := ["word"]
def t2_is_word : Rho → SR :=
  (sret (orE (andE (bop eqD (cal lenD (acons (var 0) anil)) (con (.int 1))) (bop inD (var 0) (con (.str "0123456789")))) (bop isNotN (callD 1 d_box_of (acons (var 0) anil)) (con .non))))
def t1_is_word : Rho → SR :=
  sseq (sif (orQ (tst (bop inD (var 0) (con (.tup [.str "plus", .str "minus", .str "times"])))) (tst (bop inD (var 0) (mkT (acons (con (.str "enter")) (acons (con (.str "sign")) (acons (con (.str "swap")) (acons (con (.str "roll")) anil)))))))) (sret (con (.bl true))) sskip) (t2_is_word)
def g_is_word : Rho → SR :=
  sseq (sif (notQ (tst (cal isiD (acons (var 0) (acons (con (.ty "str")) anil))))) (sret (con (.bl false))) sskip) (t1_is_word)
def d_is_word (ds : List D) : Res D := runB 1 g_is_word ds
def N_moved_v2 : List Str := ["word", "here", "x", "y", "z", "t", "boxes", "at"]
def t7_moved_v2 : Rho → SR :=
  (sret (bop addD (bop addD (bop addD (slc (var 1) pno (psm (con (.int 4)))) (slc (var 6) pno (psm (var 7)))) (mkT (acons (var 2) anil))) (slc (var 6) (psm (bop addD (var 7) (con (.int 1)))) pno)))
def t6_moved_v2 : Rho → SR :=
  sseq (sif (tst (met startsD (var 0) (acons (con (.str "get")) anil))) (sret (bop addD (mkT (acons (bop ixD (var 6) (var 7)) (acons (var 2) (acons (var 3) (acons (var 4) anil))))) (var 6))) sskip) (t7_moved_v2)
def t5_moved_v2 : Rho → SR :=
  sseq (sasg (callD 1 d_box_of (acons (var 0) anil)) (gn 7)) (t6_moved_v2)
def t4_moved_v2 : Rho → SR :=
  sseq (sif (tst (bop eqD (var 0) (con (.str "enter")))) (sret (bop addD (mkT (acons (var 2) (acons (var 2) (acons (var 3) (acons (var 4) anil))))) (var 6))) sskip) (t5_moved_v2)
def t3_moved_v2 : Rho → SR :=
  sseq (sif (tst (bop eqD (var 0) (con (.str "roll")))) (sret (bop addD (mkT (acons (var 3) (acons (var 4) (acons (var 5) (acons (var 2) anil))))) (var 6))) sskip) (t4_moved_v2)
def t2_moved_v2 : Rho → SR :=
  sseq (sif (tst (bop eqD (var 0) (con (.str "swap")))) (sret (bop addD (mkT (acons (var 3) (acons (var 2) (acons (var 4) (acons (var 5) anil))))) (var 6))) sskip) (t3_moved_v2)
def t1_moved_v2 : Rho → SR :=
  sseq (sasg (slc (var 1) (psm (con (.int 4))) pno) (gn 6)) (t2_moved_v2)
def g_moved_v2 : Rho → SR :=
  sseq (sasg (slc (var 1) pno (psm (con (.int 4)))) (gt 4 (gsc (gn 2) (gsc (gn 3) (gsc (gn 4) (gsc (gn 5) gsn)))))) (t1_moved_v2)
def d_moved_v2 (ds : List D) : Res D := runB 8 g_moved_v2 ds
def N__law_plain : List Str := ["number", "most", "some", "k"]
def e1__law_plain : Rho → Res D :=
  (bop ixD (var 2) (bop modD (bop divD (callD 2 d__law_drawn (acons (var 0) (acons (var 3) anil))) (con (.int 4))) (con (.int 24))))
def t2__law_plain : Rho → SR :=
  (sret (cal tupD (acons (lcD (rng1 (acons (bop modD (var 0) (bop addD (var 1) (con (.int 1)))) anil)) 3 yes e1__law_plain) anil)))
def t1__law_plain : Rho → SR :=
  sseq (sasg (bop addD (var 2) (mkL (acons (con (.str "swap")) (acons (con (.str "roll")) (acons (con (.str "put0")) (acons (con (.str "put1")) (acons (con (.str "put2")) (acons (con (.str "get0")) (acons (con (.str "get1")) (acons (con (.str "get2")) (acons (con (.str "swap")) (acons (con (.str "9")) anil)))))))))))) (gn 2)) (t2__law_plain)
def g__law_plain : Rho → SR :=
  sseq (sasg (mkL (acons (con (.str "0")) (acons (con (.str "1")) (acons (con (.str "2")) (acons (con (.str "3")) (acons (con (.str "7")) (acons (con (.str "enter")) (acons (con (.str "enter")) (acons (con (.str "plus")) (acons (con (.str "minus")) (acons (con (.str "times")) (acons (con (.str "times")) (acons (con (.str "plus")) (acons (con (.str "minus")) (acons (con (.str "sign")) anil))))))))))))))) (gn 2)) (t1__law_plain)
def d__law_plain (ds : List D) : Res D := runB 4 g__law_plain ds
theorem v__law_plain {a0 a1 : D} : d__law_plain [a0, a1] = finR (g__law_plain [.z a0, .z a1, .u, .u]) := runB_eq rfl
def N_tidy : List Str := ["book", "found", "powers"]
def b1_tidy : Rho → SR :=
  (sif (tst (bop neD (bop getT (var 0) (var 2)) (con (.int 0)))) (sputT 1 (var 2) (bop getT (var 0) (var 2))) sskip)
def t2_tidy : Rho → SR :=
  (sfrzT 1 (sret (var 1)))
def t1_tidy : Rho → SR :=
  sseq (sfor (itemsB (var 0)) (gn 2) b1_tidy) (t2_tidy)
def g_tidy : Rho → SR :=
  sseq (sownT 1) (t1_tidy)
def d_tidy (ds : List D) : Res D := runB 3 g_tidy ds
theorem v_tidy {a0 : D} : d_tidy [a0] = finR (g_tidy [.z a0, .u, .u]) := runB_eq rfl
def N_constant : List Str := ["figure"]
def g_constant : Rho → SR :=
  (sret (callD 1 d_tidy (acons (dispT (bop repP (mkW (acons (con (.int 0)) anil)) (con (.int 7))) (cal intD (acons (var 0) anil))) anil)))
def d_constant (ds : List D) : Res D := runB 1 g_constant ds
theorem v_constant {a0 : D} : d_constant [a0] = finR (g_constant [.z a0]) := runB_eq rfl
def N_opposite_v2 : List Str := ["one", "found", "powers"]
def b1_opposite_v2 : Rho → SR :=
  (sputT 1 (var 2) (una negD (bop getT (var 0) (var 2))))
def t2_opposite_v2 : Rho → SR :=
  (sfrzT 1 (sret (var 1)))
def t1_opposite_v2 : Rho → SR :=
  sseq (sfor (itemsB (var 0)) (gn 2) b1_opposite_v2) (t2_opposite_v2)
def g_opposite_v2 : Rho → SR :=
  sseq (sownT 1) (t1_opposite_v2)
def d_opposite_v2 (ds : List D) : Res D := runB 3 g_opposite_v2 ds
theorem v_opposite_v2 {a0 : D} : d_opposite_v2 [a0] = finR (g_opposite_v2 [.z a0, .u, .u]) := runB_eq rfl
def N_added : List Str := ["one", "other", "found", "powers"]
def b1_added : Rho → SR :=
  (sputT 2 (var 3) (bop addD (getO 2 (var 3) (con (.int 0))) (bop getT (var 1) (var 3))))
def t2_added : Rho → SR :=
  (sfrzT 2 (sret (callD 1 d_tidy (acons (var 2) anil))))
def t1_added : Rho → SR :=
  sseq (sfor (itemsB (var 1)) (gn 3) b1_added) (t2_added)
def g_added : Rho → SR :=
  sseq (scopyT 2 (acons (var 0) anil)) (t1_added)
def d_added (ds : List D) : Res D := runB 4 g_added ds
theorem v_added {a0 a1 : D} : d_added [a0, a1] = finR (g_added [.z a0, .z a1, .u, .u]) := runB_eq rfl
def N_taken_v2 : List Str := ["one", "other"]
def g_taken_v2 : Rho → SR :=
  (sret (callD 2 d_added (acons (var 0) (acons (callD 1 d_opposite_v2 (acons (var 1) anil)) anil))))
def d_taken_v2 (ds : List D) : Res D := runB 2 g_taken_v2 ds
theorem v_taken_v2 {a0 a1 : D} : d_taken_v2 [a0, a1] = finR (g_taken_v2 [.z a0, .z a1]) := runB_eq rfl
def N_multiplied : List Str := ["one", "other", "found", "left", "right", "powers", "a", "b"]
def e1_multiplied : Rho → Res D :=
  (bop addD (var 6) (var 7))
def b2_multiplied : Rho → SR :=
  (sseq (sasg (cal tupW (acons (lcG (zipI (offA (acons (var 3) (acons (var 4) anil)))) [6, 7] (gt 2 (gsc (gn 6) (gsc (gn 7) gsn))) yes e1_multiplied) anil)) (gn 5))
    (sputT 2 (var 5) (bop addD (getO 2 (var 5) (con (.int 0))) (bop mulD (bop getT (var 0) (var 3)) (bop getT (var 1) (var 4))))))
def b3_multiplied : Rho → SR :=
  (sfor (itemsB (var 1)) (gn 4) b2_multiplied)
def t2_multiplied : Rho → SR :=
  (sfrzT 2 (sret (callD 1 d_tidy (acons (var 2) anil))))
def t1_multiplied : Rho → SR :=
  sseq (sfor (itemsB (var 0)) (gn 3) b3_multiplied) (t2_multiplied)
def g_multiplied : Rho → SR :=
  sseq (sownT 2) (t1_multiplied)
def d_multiplied (ds : List D) : Res D := runB 8 g_multiplied ds
theorem v_multiplied {a0 a1 : D} : d_multiplied [a0, a1] = finR (g_multiplied [.z a0, .z a1, .u, .u, .u, .u, .u, .u]) := runB_eq rfl
def N_made_v2 : List Str := ["row", "here", "deeds", "number", "sign", "add", "take", "multiply", "word", "deed"]
def b1_made_v2 : Rho → SR :=
  (sseq (sif (notQ (tst (callD 1 d_is_word (acons (var 8) anil)))) (sraise "NoKey") sskip)
    (sif (tst (bop inD (var 8) (con (.tup [.str "plus", .str "minus", .str "times"])))) (sseq (sasg (dixD ["plus", "minus", "times"] (acons (var 5) (acons (var 6) (acons (var 7) anil))) (var 8)) (gn 9))
    (sasg (bop addD (mkT (acons (callF 9 (fun n => (if n = "constant" then some (fun ds => if ds.length = 1 then d_constant ds else .bad) else (if n = "opposite" then some (fun ds => if ds.length = 1 then d_opposite_v2 ds else .bad) else (if n = "added" then some (fun ds => if ds.length = 2 then d_added ds else .bad) else (if n = "taken" then some (fun ds => if ds.length = 2 then d_taken_v2 ds else .bad) else (if n = "multiplied" then some (fun ds => if ds.length = 2 then d_multiplied ds else .bad) else none)))))) (acons (bop ixD (var 1) (con (.int 1))) (acons (bop ixD (var 1) (con (.int 0))) anil))) (acons (bop ixD (var 1) (con (.int 2))) (acons (bop ixD (var 1) (con (.int 3))) anil)))) (slc (var 1) (psm (con (.int 3))) pno)) (gn 1))) (sif (tst (bop eqD (var 8) (con (.str "sign")))) (sasg (bop addD (mkT (acons (callF 4 (fun n => (if n = "constant" then some (fun ds => if ds.length = 1 then d_constant ds else .bad) else (if n = "opposite" then some (fun ds => if ds.length = 1 then d_opposite_v2 ds else .bad) else (if n = "added" then some (fun ds => if ds.length = 2 then d_added ds else .bad) else (if n = "taken" then some (fun ds => if ds.length = 2 then d_taken_v2 ds else .bad) else (if n = "multiplied" then some (fun ds => if ds.length = 2 then d_multiplied ds else .bad) else none)))))) (acons (bop ixD (var 1) (con (.int 0))) anil)) anil)) (slc (var 1) (psm (con (.int 1))) pno)) (gn 1)) (sif (tst (bop eqD (cal lenD (acons (var 8) anil)) (con (.int 1)))) (sasg (bop addD (bop addD (mkT (acons (callF 3 (fun n => (if n = "constant" then some (fun ds => if ds.length = 1 then d_constant ds else .bad) else (if n = "opposite" then some (fun ds => if ds.length = 1 then d_opposite_v2 ds else .bad) else (if n = "added" then some (fun ds => if ds.length = 2 then d_added ds else .bad) else (if n = "taken" then some (fun ds => if ds.length = 2 then d_taken_v2 ds else .bad) else (if n = "multiplied" then some (fun ds => if ds.length = 2 then d_multiplied ds else .bad) else none)))))) (acons (var 8) anil)) anil)) (slc (var 1) pno (psm (con (.int 3))))) (slc (var 1) (psm (con (.int 4))) pno)) (gn 1)) (sasg (callD 2 d_moved_v2 (acons (var 8) (acons (var 1) anil))) (gn 1))))))
def t2_made_v2 : Rho → SR :=
  (sret (var 1))
def t1_made_v2 : Rho → SR :=
  sseq (sfor (its (var 0)) (gn 8) b1_made_v2) (t2_made_v2)
def g_made_v2 : Rho → SR :=
  sseq (sasg (var 2) (gt 5 (gsc (gn 3) (gsc (gn 4) (gsc (gn 5) (gsc (gn 6) (gsc (gn 7) gsn))))))) (t1_made_v2)
def d_made_v2 (ds : List D) : Res D := runB 10 g_made_v2 ds
theorem v_made_v2 {a0 a1 a2 : D} : d_made_v2 [a0, a1, a2] = finR (g_made_v2 [.z a0, .z a1, .z a2, .u, .u, .u, .u, .u, .u, .u]) := runB_eq rfl
def N_forms : List Str := ["row", "begin", "k", "at", "found", "book"]
def e1_forms : Rho → Res D :=
  (cal intD (acons (bop eqD (var 2) (var 3)) anil))
def e2_forms : Rho → Res D :=
  (dispT (cal tupW (acons (lcD (rng1 (acons (con (.int 7)) anil)) 2 yes e1_forms) anil)) (con (.int 1)))
def e3_forms : Rho → Res D :=
  (cal tupF (acons (sortedD (var 5)) anil))
def t2_forms : Rho → SR :=
  (sret (cal tupD (acons (lcD (its (var 4)) 5 yes e3_forms) anil)))
def t1_forms : Rho → SR :=
  sseq (sasg (callD 3 d_made_v2 (acons (var 0) (acons (var 1) (acons (mkT (acons (con (.fn "constant")) (acons (con (.fn "opposite")) (acons (con (.fn "added")) (acons (con (.fn "taken")) (acons (con (.fn "multiplied")) anil)))))) anil)))) (gn 4)) (t2_forms)
def g_forms : Rho → SR :=
  sseq (sasg (cal tupD (acons (lcD (rng1 (acons (con (.int 7)) anil)) 3 yes e2_forms) anil)) (gn 1)) (t1_forms)
def d_forms (ds : List D) : Res D := runB 6 g_forms ds
theorem v_forms {a0 : D} : d_forms [a0] = finR (g_forms [.z a0, .u, .u, .u, .u, .u]) := runB_eq rfl
def N_power_of : List Str := ["number", "power", "found", "turn"]
def b1_power_of : Rho → SR :=
  (sasg (bop mulD (var 2) (var 0)) (gn 2))
def t2_power_of : Rho → SR :=
  (sret (var 2))
def t1_power_of : Rho → SR :=
  sseq (sfor (rng1 (acons (var 1) anil)) (gn 3) b1_power_of) (t2_power_of)
def g_power_of : Rho → SR :=
  sseq (sasg (con (.int 1)) (gn 2)) (t1_power_of)
def d_power_of (ds : List D) : Res D := runB 4 g_power_of ds
def N_alike : List Str := ["one", "other"]
def g_alike : Rho → SR :=
  (sret (bop eqD (unP (callD 1 d_forms (acons (var 0) anil))) (unP (callD 1 d_forms (acons (var 1) anil)))))
def d_alike (ds : List D) : Res D := runB 2 g_alike ds
theorem v_alike {a0 a1 : D} : d_alike [a0, a1] = finR (g_alike [.z a0, .z a1]) := runB_eq rfl
def N_with_value : List Str := ["book", "at", "value", "found", "powers", "rest"]
def b1_with_value : Rho → SR :=
  (sseq (sasg (bop catP (bop catP (slcP (var 4) pno (psm (var 1))) (mkW (acons (con (.int 0)) anil))) (slcP (var 4) (psm (bop addD (var 1) (con (.int 1)))) pno)) (gn 5))
    (sputT 3 (var 5) (bop addD (getO 3 (var 5) (con (.int 0))) (bop mulD (bop getT (var 0) (var 4)) (callD 2 d_power_of (acons (var 2) (acons (bop ixD (unP (var 4)) (var 1)) anil)))))))
def t2_with_value : Rho → SR :=
  (sfrzT 3 (sret (callD 1 d_tidy (acons (var 3) anil))))
def t1_with_value : Rho → SR :=
  sseq (sfor (itemsB (var 0)) (gn 4) b1_with_value) (t2_with_value)
def g_with_value : Rho → SR :=
  sseq (sownT 3) (t1_with_value)
def d_with_value (ds : List D) : Res D := runB 6 g_with_value ds
def N_point_of : List Str := ["book", "found", "at", "value"]
def c1_point_of : Rho → Res Bool :=
  (emptyT (callD 3 d_with_value (acons (var 0) (acons (var 2) (acons (var 3) anil)))))
def b2_point_of : Rho → SR :=
  (sasg (bop addD (var 3) (con (.int 1))) (gn 3))
def b3_point_of : Rho → SR :=
  (sseq (sasg (con (.int 0)) (gn 3))
    (sseq (whileD c1_point_of b2_point_of 100000)
    (sseq (sasg (callD 3 d_with_value (acons (var 0) (acons (var 2) (acons (var 3) anil)))) (gn 0))
    (sasg (bop addD (var 1) (mkT (acons (var 3) anil))) (gn 1)))))
def t2_point_of : Rho → SR :=
  (sret (var 1))
def t1_point_of : Rho → SR :=
  sseq (sfor (rng1 (acons (con (.int 7)) anil)) (gn 2) b3_point_of) (t2_point_of)
def g_point_of : Rho → SR :=
  sseq (sasg (mkT anil) (gn 1)) (t1_point_of)
def d_point_of (ds : List D) : Res D := runB 4 g_point_of ds
def N_parting : List Str := ["one", "other", "mine", "yours"]
def b1_parting : Rho → SR :=
  (sif (tst (bop neD (unP (var 2)) (unP (var 3)))) (sret (callD 1 d_point_of (acons (callD 2 d_taken_v2 (acons (dictFD (acons (var 2) anil)) (acons (dictFD (acons (var 3) anil)) anil))) anil))) sskip)
def t1_parting : Rho → SR :=
  (sret (con .non))
def g_parting : Rho → SR :=
  sseq (sfor (zipI (acons (callD 1 d_forms (acons (var 0) anil)) (acons (callD 1 d_forms (acons (var 1) anil)) anil))) (gt 2 (gsc (gn 2) (gsc (gn 3) gsn))) b1_parting) (t1_parting)
def d_parting (ds : List D) : Res D := runB 4 g_parting ds
theorem v_parting {a0 a1 : D} : d_parting [a0, a1] = finR (g_parting [.z a0, .z a1, .u, .u]) := runB_eq rfl
def topS (i : Nat) : Stmt := PySem.Challenge.pw_pocketpile_k43_whole_rows_told_otherwise.main.body.getD i (.Pass ⟨0, 0, 0, 0⟩)
abbrev s_box_of : Stmt := topS 6
abbrev s_is_word : Stmt := topS 7
abbrev s_moved : Stmt := topS 8
abbrev s_tidy : Stmt := topS 12
abbrev s_constant : Stmt := topS 17
abbrev s_opposite : Stmt := topS 14
abbrev s_added : Stmt := topS 13
abbrev s_taken : Stmt := topS 15
abbrev s_multiplied : Stmt := topS 16
abbrev s_made : Stmt := topS 9
abbrev s_forms : Stmt := topS 18
abbrev s_power_of : Stmt := topS 19
abbrev s_alike : Stmt := topS 20
abbrev s_with_value : Stmt := topS 21
abbrev s_point_of : Stmt := topS 22
abbrev s_parting : Stmt := topS 23
abbrev s__law_cell_at : Stmt := topS 25
abbrev s__law_mixed : Stmt := topS 26
abbrev s__law_drawn : Stmt := topS 27
abbrev s__law_plain : Stmt := topS 28
abbrev s_law : Stmt := topS 30
def k_DEEDS : List Str := ["plus", "minus", "times"]
structure Top (w : World) (K : PySem.W.Frag) (mg : Str → Option Value) : Prop where
  f_box_of : ∃ fd, FunD K "box_of" "box_of" (defArgs s_box_of) (defBody s_box_of) (defScope s_box_of) [] [] (He.ga K "box_of") fd
  m_box_of : mg "box_of" = some (.ref (He.ga K "box_of"))
  f_is_word : ∃ fd, FunD K "is_word" "is_word" (defArgs s_is_word) (defBody s_is_word) (defScope s_is_word) [] [] (He.ga K "is_word") fd
  m_is_word : mg "is_word" = some (.ref (He.ga K "is_word"))
  f_moved : ∃ fd, FunD K "moved" "moved" (defArgs s_moved) (defBody s_moved) (defScope s_moved) [] [] (He.ga K "moved") fd
  m_moved : mg "moved" = some (.ref (He.ga K "moved"))
  f_tidy : ∃ fd, FunD K "tidy" "tidy" (defArgs s_tidy) (defBody s_tidy) (defScope s_tidy) [] [] (He.ga K "tidy") fd
  m_tidy : mg "tidy" = some (.ref (He.ga K "tidy"))
  f_constant : ∃ fd, FunD K "constant" "constant" (defArgs s_constant) (defBody s_constant) (defScope s_constant) [] [] (He.ga K "constant") fd
  m_constant : mg "constant" = some (.ref (He.ga K "constant"))
  f_opposite : ∃ fd, FunD K "opposite" "opposite" (defArgs s_opposite) (defBody s_opposite) (defScope s_opposite) [] [] (He.ga K "opposite") fd
  m_opposite : mg "opposite" = some (.ref (He.ga K "opposite"))
  f_added : ∃ fd, FunD K "added" "added" (defArgs s_added) (defBody s_added) (defScope s_added) [] [] (He.ga K "added") fd
  m_added : mg "added" = some (.ref (He.ga K "added"))
  f_taken : ∃ fd, FunD K "taken" "taken" (defArgs s_taken) (defBody s_taken) (defScope s_taken) [] [] (He.ga K "taken") fd
  m_taken : mg "taken" = some (.ref (He.ga K "taken"))
  f_multiplied : ∃ fd, FunD K "multiplied" "multiplied" (defArgs s_multiplied) (defBody s_multiplied) (defScope s_multiplied) [] [] (He.ga K "multiplied") fd
  m_multiplied : mg "multiplied" = some (.ref (He.ga K "multiplied"))
  f_made : ∃ fd, FunD K "made" "made" (defArgs s_made) (defBody s_made) (defScope s_made) [] [] (He.ga K "made") fd
  m_made : mg "made" = some (.ref (He.ga K "made"))
  f_forms : ∃ fd, FunD K "forms" "forms" (defArgs s_forms) (defBody s_forms) (defScope s_forms) [] [] (He.ga K "forms") fd
  m_forms : mg "forms" = some (.ref (He.ga K "forms"))
  f_power_of : ∃ fd, FunD K "power_of" "power_of" (defArgs s_power_of) (defBody s_power_of) (defScope s_power_of) [] [] (He.ga K "power_of") fd
  m_power_of : mg "power_of" = some (.ref (He.ga K "power_of"))
  f_alike : ∃ fd, FunD K "alike" "alike" (defArgs s_alike) (defBody s_alike) (defScope s_alike) [] [] (He.ga K "alike") fd
  m_alike : mg "alike" = some (.ref (He.ga K "alike"))
  f_with_value : ∃ fd, FunD K "with_value" "with_value" (defArgs s_with_value) (defBody s_with_value) (defScope s_with_value) [] [] (He.ga K "with_value") fd
  m_with_value : mg "with_value" = some (.ref (He.ga K "with_value"))
  f_point_of : ∃ fd, FunD K "point_of" "point_of" (defArgs s_point_of) (defBody s_point_of) (defScope s_point_of) [] [] (He.ga K "point_of") fd
  m_point_of : mg "point_of" = some (.ref (He.ga K "point_of"))
  f_parting : ∃ fd, FunD K "parting" "parting" (defArgs s_parting) (defBody s_parting) (defScope s_parting) [] [] (He.ga K "parting") fd
  m_parting : mg "parting" = some (.ref (He.ga K "parting"))
  f__law_cell_at : ∃ fd, FunD K "_law_cell_at" "_law_cell_at" (defArgs s__law_cell_at) (defBody s__law_cell_at) (defScope s__law_cell_at) [] [] (He.ga K "_law_cell_at") fd
  m__law_cell_at : mg "_law_cell_at" = some (.ref (He.ga K "_law_cell_at"))
  f__law_mixed : ∃ fd, FunD K "_law_mixed" "_law_mixed" (defArgs s__law_mixed) (defBody s__law_mixed) (defScope s__law_mixed) [] [] (He.ga K "_law_mixed") fd
  m__law_mixed : mg "_law_mixed" = some (.ref (He.ga K "_law_mixed"))
  f__law_drawn : ∃ fd, FunD K "_law_drawn" "_law_drawn" (defArgs s__law_drawn) (defBody s__law_drawn) (defScope s__law_drawn) [] [] (He.ga K "_law_drawn") fd
  m__law_drawn : mg "_law_drawn" = some (.ref (He.ga K "_law_drawn"))
  f__law_plain : ∃ fd, FunD K "_law_plain" "_law_plain" (defArgs s__law_plain) (defBody s__law_plain) (defScope s__law_plain) [] [] (He.ga K "_law_plain") fd
  m__law_plain : mg "_law_plain" = some (.ref (He.ga K "_law_plain"))
  f_law : ∃ fd, FunD K "law" "law" (defArgs s_law) (defBody s_law) (defScope s_law) [] [] (He.ga K "law") fd
  m_law : mg "law" = some (.ref (He.ga K "law"))
  b_len : mg "len" = none
  b_int : mg "int" = none
  b_str : mg "str" = none
  b_isinstance : mg "isinstance" = none
  b_dict : mg "dict" = none
  b_tuple : mg "tuple" = none
  b_zip : mg "zip" = none
  b_range : mg "range" = none
  b_sorted : mg "sorted" = none
  c_MANY : ∃ t, mg "MANY" = some (.int (7) t)
  c_FIGURES : ∃ t, mg "FIGURES" = some (.str "0123456789" t)
  m_DEEDS : mg "DEEDS" = some (.ref (He.ga K "DEEDS"))
  c_DEEDS : ∀ H, SqT K H (He.ga K "DEEDS") (k_DEEDS.map V.str)
  e_NoKey : ExcN K mg "NoKey"
section
variable {P : Program} {w : World} {K : PySem.W.Frag} {mg : Str → Option Value} {base : Heap} {T : List (Addr × Str)}
theorem sc_box_of : FnScope N_box_of ["word"] (defScope s_box_of) := ⟨rfl, rfl, rfl, by decide +kernel, rfl, by decide +kernel, by decide +kernel⟩
theorem ok_box_of (Z : Top w K mg) : OkD P w K mg base T 1 "box_of" 1 d_box_of := by
  obtain ⟨fd, Fd⟩ := Z.f_box_of
  refine ⟨⟨fd, ["word"], fn_ok Fd sc_box_of rfl fun cdv A outer s0 H0 E F0 hr => ?_, Fd.bindsN (ps := ["word"]) (fun _ _ _ _ _ _ us hl => match us, hl with | [_], _ => rfl)⟩, Fd.kp, Z.m_box_of⟩
  have tk : Takes (cxOf (L2.CX P w) P w K mg base N_box_of "box_of" (defScope s_box_of) (He.ga K "box_of") cdv A outer s0 H0 E) (WofE E) := takes_of rfl rfl rfl rfl
  have po : PassesOwn (model P w) (cxOf (L2.CX P w) P w K mg base N_box_of "box_of" (defScope s_box_of) (He.ga K "box_of") cdv A outer s0 H0 E).A (cxOf (L2.CX P w) P w K mg base N_box_of "box_of" (defScope s_box_of) (He.ga K "box_of") cdv A outer s0 H0 E).env (cxOf (L2.CX P w) P w K mg base N_box_of "box_of" (defScope s_box_of) (He.ga K "box_of") cdv A outer s0 H0 E).xe := passes_of (X := (cxOf (L2.CX P w) P w K mg base N_box_of "box_of" (defScope s_box_of) (He.ga K "box_of") cdv A outer s0 H0 E)) rfl
  have hu := hr.units
  exact (s_cons (s_if (q_w (w_and (q_cmp (o_eq hu) (e_callB c_len rfl Z.b_len bt_len (a_cons (e_var (pv 0)) a_nil)) e_int (nomark _)) (w_and (q_cmp (o_in hu) (e_sl (e_var (pv 0)) p_none (p_some e_int)) (e_tup (a_cons e_str (a_cons e_str a_nil))) (by rfl)) (w_and1 (q_cmp (o_in hu) (e_ix (e_var (pv 0)) e_int) e_str (by rfl)))))) (s_one (s_ret (e_callTy c_int rfl Z.b_int bt_int (a_cons (e_ix (e_var (pv 0)) e_int) a_nil)))) s_nil)
    (s_one (s_ret e_non)))
theorem sc_is_word : FnScope N_is_word ["word"] (defScope s_is_word) := ⟨rfl, rfl, rfl, by decide +kernel, rfl, by decide +kernel, by decide +kernel⟩
theorem ok_is_word (Z : Top w K mg) : OkD P w K mg base T 2 "is_word" 1 d_is_word := by
  obtain ⟨fd, Fd⟩ := Z.f_is_word
  refine ⟨⟨fd, ["word"], fn_ok Fd sc_is_word rfl fun cdv A outer s0 H0 E F0 hr => ?_, Fd.bindsN (ps := ["word"]) (fun _ _ _ _ _ _ us hl => match us, hl with | [_], _ => rfl)⟩, Fd.kp, Z.m_is_word⟩
  have tk : Takes (cxOf (L2.CX P w) P w K mg base N_is_word "is_word" (defScope s_is_word) (He.ga K "is_word") cdv A outer s0 H0 E) (WofE E) := takes_of rfl rfl rfl rfl
  have po : PassesOwn (model P w) (cxOf (L2.CX P w) P w K mg base N_is_word "is_word" (defScope s_is_word) (He.ga K "is_word") cdv A outer s0 H0 E).A (cxOf (L2.CX P w) P w K mg base N_is_word "is_word" (defScope s_is_word) (He.ga K "is_word") cdv A outer s0 H0 E).env (cxOf (L2.CX P w) P w K mg base N_is_word "is_word" (defScope s_is_word) (He.ga K "is_word") cdv A outer s0 H0 E).xe := passes_of (X := (cxOf (L2.CX P w) P w K mg base N_is_word "is_word" (defScope s_is_word) (He.ga K "is_word") cdv A outer s0 H0 E)) rfl
  have hu := hr.units
  exact (s_cons (s_if (q_not (q_val (e_callB c_isi rfl Z.b_isinstance bt_isinstance (a_cons (e_var (pv 0)) (a_cons (e_ty Z.b_str bt_str rfl) a_nil))))) (s_one (s_ret e_bl)) s_nil)
    (s_cons (s_if (q_w (w_or (q_cmp (o_in hu) (e_var (pv 0)) (e_gtup (zs := ["plus", "minus", "times"]) Z.m_DEEDS Z.c_DEEDS rfl) (by rfl)) (w_or1 (q_cmp (o_in hu) (e_var (pv 0)) (e_tup (a_cons e_str (a_cons e_str (a_cons e_str (a_cons e_str a_nil))))) (by rfl))))) (s_one (s_ret e_bl)) s_nil)
    (s_one (s_ret (e_or (e_and (e_cmp (o_eq hu) (e_callB c_len rfl Z.b_len bt_len (a_cons (e_var (pv 0)) a_nil)) e_int (nomark _)) (e_one (e_cmp (o_in hu) (e_var (pv 0)) (e_gstr Z.c_FIGURES rfl) (by rfl)))) (e_one (e_cmp o_isNot (e_call (ok_box_of Z) hr tk rfl (a_cons (e_var (pv 0)) a_nil)) e_non (nomark _))))))))
theorem sc_moved : FnScope N_moved_v2 ["word", "here"] (defScope s_moved) := ⟨rfl, rfl, rfl, by decide +kernel, rfl, by decide +kernel, by decide +kernel⟩
theorem ok_moved (Z : Top w K mg) : OkD P w K mg base T 2 "moved" 2 d_moved_v2 := by
  obtain ⟨fd, Fd⟩ := Z.f_moved
  refine ⟨⟨fd, ["word", "here"], fn_ok Fd sc_moved rfl fun cdv A outer s0 H0 E F0 hr => ?_, Fd.bindsN (ps := ["word", "here"]) (fun _ _ _ _ _ _ us hl => match us, hl with | [_, _], _ => rfl)⟩, Fd.kp, Z.m_moved⟩
  have tk : Takes (cxOf (L2.CX P w) P w K mg base N_moved_v2 "moved" (defScope s_moved) (He.ga K "moved") cdv A outer s0 H0 E) (WofE E) := takes_of rfl rfl rfl rfl
  have po : PassesOwn (model P w) (cxOf (L2.CX P w) P w K mg base N_moved_v2 "moved" (defScope s_moved) (He.ga K "moved") cdv A outer s0 H0 E).A (cxOf (L2.CX P w) P w K mg base N_moved_v2 "moved" (defScope s_moved) (He.ga K "moved") cdv A outer s0 H0 E).env (cxOf (L2.CX P w) P w K mg base N_moved_v2 "moved" (defScope s_moved) (He.ga K "moved") cdv A outer s0 H0 E).xe := passes_of (X := (cxOf (L2.CX P w) P w K mg base N_moved_v2 "moved" (defScope s_moved) (He.ga K "moved") cdv A outer s0 H0 E)) rfl
  have hu := hr.units
  exact (s_cons (s_asg (e_sl (e_var (pv 1)) p_none (p_some e_int)) (g_tup rfl (gs_cons (g_name (pg_name (i := 2) sc_moved.nd rfl (Or.inl rfl))) (gs_cons (g_name (pg_name (i := 3) sc_moved.nd rfl (Or.inl rfl))) (gs_cons (g_name (pg_name (i := 4) sc_moved.nd rfl (Or.inl rfl))) (gs_cons (g_name (pg_name (i := 5) sc_moved.nd rfl (Or.inl rfl))) gs_nil))))))
    (s_cons (s_asg (e_sl (e_var (pv 1)) (p_some e_int) p_none) (g_name (pg_name (i := 6) sc_moved.nd rfl (Or.inl rfl))))
    (s_cons (s_if (q_cmp (o_eq hu) (e_var (pv 0)) e_str (nomark _)) (s_one (s_ret (e_bin o_add (e_tup (a_cons (e_var (pv 3)) (a_cons (e_var (pv 2)) (a_cons (e_var (pv 4)) (a_cons (e_var (pv 5)) a_nil))))) (e_var (pv 6))))) s_nil)
    (s_cons (s_if (q_cmp (o_eq hu) (e_var (pv 0)) e_str (nomark _)) (s_one (s_ret (e_bin o_add (e_tup (a_cons (e_var (pv 3)) (a_cons (e_var (pv 4)) (a_cons (e_var (pv 5)) (a_cons (e_var (pv 2)) a_nil))))) (e_var (pv 6))))) s_nil)
    (s_cons (s_if (q_cmp (o_eq hu) (e_var (pv 0)) e_str (nomark _)) (s_one (s_ret (e_bin o_add (e_tup (a_cons (e_var (pv 2)) (a_cons (e_var (pv 2)) (a_cons (e_var (pv 3)) (a_cons (e_var (pv 4)) a_nil))))) (e_var (pv 6))))) s_nil)
    (s_cons (s_asg (e_call (ok_box_of Z) hr tk rfl (a_cons (e_var (pv 0)) a_nil)) (g_name (pg_name (i := 7) sc_moved.nd rfl (Or.inl rfl))))
    (s_cons (s_if (q_val (e_met PySem.F.plainAttrs_str PySem.F.slot_str_startswith PySem.F.type_str_startswith m_starts (e_var (pv 0)) (a_cons e_str a_nil))) (s_one (s_ret (e_bin o_add (e_tup (a_cons (e_ix (e_var (pv 6)) (e_var (pv 7))) (a_cons (e_var (pv 2)) (a_cons (e_var (pv 3)) (a_cons (e_var (pv 4)) a_nil))))) (e_var (pv 6))))) s_nil)
    (s_one (s_ret (e_bin o_add (e_bin o_add (e_bin o_add (e_sl (e_var (pv 1)) p_none (p_some e_int)) (e_sl (e_var (pv 6)) p_none (p_some (e_var (pv 7))))) (e_tup (a_cons (e_var (pv 2)) a_nil))) (e_sl (e_var (pv 6)) (p_some (e_bin o_add (e_var (pv 7)) e_int)) p_none)))))))))))
theorem sc_tidy : FnScope N_tidy ["book"] (defScope s_tidy) := ⟨rfl, rfl, rfl, by decide +kernel, rfl, by decide +kernel, by decide +kernel⟩
theorem ok_tidy (Z : Top w K mg) : OkD P w K mg base T 1 "tidy" 1 d_tidy := by
  obtain ⟨fd, Fd⟩ := Z.f_tidy
  refine ⟨⟨fd, ["book"], fn_ok Fd sc_tidy rfl fun cdv A outer s0 H0 E F0 hr => ?_, Fd.bindsN (ps := ["book"]) (fun _ _ _ _ _ _ us hl => match us, hl with | [_], _ => rfl)⟩, Fd.kp, Z.m_tidy⟩
  have tk : Takes (cxOf (L2.CX P w) P w K mg base N_tidy "tidy" (defScope s_tidy) (He.ga K "tidy") cdv A outer s0 H0 E) (WofE E) := takes_of rfl rfl rfl rfl
  have po : PassesOwn (model P w) (cxOf (L2.CX P w) P w K mg base N_tidy "tidy" (defScope s_tidy) (He.ga K "tidy") cdv A outer s0 H0 E).A (cxOf (L2.CX P w) P w K mg base N_tidy "tidy" (defScope s_tidy) (He.ga K "tidy") cdv A outer s0 H0 E).env (cxOf (L2.CX P w) P w K mg base N_tidy "tidy" (defScope s_tidy) (He.ga K "tidy") cdv A outer s0 H0 E).xe := passes_of (X := (cxOf (L2.CX P w) P w K mg base N_tidy "tidy" (defScope s_tidy) (He.ga K "tidy") cdv A outer s0 H0 E)) rfl
  have hu := hr.units
  exact (s_cons (s_ownT (pg_name (i := 1) sc_tidy.nd rfl (Or.inl rfl)))
    (s_cons (s_for po rfl (i_keys rfl (e_var (pv 0))) (g_name (pg_name (i := 2) sc_tidy.nd rfl (Or.inl rfl))) (s_one (s_if (q_cmp (o_ne hu) (e_getT (lt1 hu) (e_var (pv 0)) (e_var (pv 2))) e_int (nomark _)) (s_one (s_putT (lt1 hu) (pv 1) (e_var (pv 2)) (e_getT (lt1 hu) (e_var (pv 0)) (e_var (pv 2))) (by intro _; rfl))) s_nil)))
    (s_frzT (i := 1) (s_one (s_ret (e_var (pv 1)))))))
theorem sc_constant : FnScope N_constant ["figure"] (defScope s_constant) := ⟨rfl, rfl, rfl, by decide +kernel, rfl, by decide +kernel, by decide +kernel⟩
theorem ok_constant (Z : Top w K mg) : OkD P w K mg base T 2 "constant" 1 d_constant := by
  obtain ⟨fd, Fd⟩ := Z.f_constant
  refine ⟨⟨fd, ["figure"], fn_ok Fd sc_constant rfl fun cdv A outer s0 H0 E F0 hr => ?_, Fd.bindsN (ps := ["figure"]) (fun _ _ _ _ _ _ us hl => match us, hl with | [_], _ => rfl)⟩, Fd.kp, Z.m_constant⟩
  have tk : Takes (cxOf (L2.CX P w) P w K mg base N_constant "constant" (defScope s_constant) (He.ga K "constant") cdv A outer s0 H0 E) (WofE E) := takes_of rfl rfl rfl rfl
  have po : PassesOwn (model P w) (cxOf (L2.CX P w) P w K mg base N_constant "constant" (defScope s_constant) (He.ga K "constant") cdv A outer s0 H0 E).A (cxOf (L2.CX P w) P w K mg base N_constant "constant" (defScope s_constant) (He.ga K "constant") cdv A outer s0 H0 E).env (cxOf (L2.CX P w) P w K mg base N_constant "constant" (defScope s_constant) (He.ga K "constant") cdv A outer s0 H0 E).xe := passes_of (X := (cxOf (L2.CX P w) P w K mg base N_constant "constant" (defScope s_constant) (He.ga K "constant") cdv A outer s0 H0 E)) rfl
  have hu := hr.units
  exact (s_one (s_ret (e_call (ok_tidy Z) hr tk rfl (a_cons (e_dispT (lt0 hu) (e_bin o_repP (e_tupW (a_cons e_int a_nil)) (e_gint Z.c_MANY rfl)) (e_callTy c_int rfl Z.b_int bt_int (a_cons (e_var (pv 0)) a_nil))) a_nil))))
theorem sc_opposite : FnScope N_opposite_v2 ["one"] (defScope s_opposite) := ⟨rfl, rfl, rfl, by decide +kernel, rfl, by decide +kernel, by decide +kernel⟩
theorem ok_opposite (Z : Top w K mg) : OkD P w K mg base T 1 "opposite" 1 d_opposite_v2 := by
  obtain ⟨fd, Fd⟩ := Z.f_opposite
  refine ⟨⟨fd, ["one"], fn_ok Fd sc_opposite rfl fun cdv A outer s0 H0 E F0 hr => ?_, Fd.bindsN (ps := ["one"]) (fun _ _ _ _ _ _ us hl => match us, hl with | [_], _ => rfl)⟩, Fd.kp, Z.m_opposite⟩
  have tk : Takes (cxOf (L2.CX P w) P w K mg base N_opposite_v2 "opposite" (defScope s_opposite) (He.ga K "opposite") cdv A outer s0 H0 E) (WofE E) := takes_of rfl rfl rfl rfl
  have po : PassesOwn (model P w) (cxOf (L2.CX P w) P w K mg base N_opposite_v2 "opposite" (defScope s_opposite) (He.ga K "opposite") cdv A outer s0 H0 E).A (cxOf (L2.CX P w) P w K mg base N_opposite_v2 "opposite" (defScope s_opposite) (He.ga K "opposite") cdv A outer s0 H0 E).env (cxOf (L2.CX P w) P w K mg base N_opposite_v2 "opposite" (defScope s_opposite) (He.ga K "opposite") cdv A outer s0 H0 E).xe := passes_of (X := (cxOf (L2.CX P w) P w K mg base N_opposite_v2 "opposite" (defScope s_opposite) (He.ga K "opposite") cdv A outer s0 H0 E)) rfl
  have hu := hr.units
  exact (s_cons (s_ownT (pg_name (i := 1) sc_opposite.nd rfl (Or.inl rfl)))
    (s_cons (s_for po rfl (i_keys rfl (e_var (pv 0))) (g_name (pg_name (i := 2) sc_opposite.nd rfl (Or.inl rfl))) (s_one (s_putT (lt1 hu) (pv 1) (e_var (pv 2)) (e_una u_neg (e_getT (lt1 hu) (e_var (pv 0)) (e_var (pv 2)))) (by intro _; rfl))))
    (s_frzT (i := 1) (s_one (s_ret (e_var (pv 1)))))))
theorem sc_added : FnScope N_added ["one", "other"] (defScope s_added) := ⟨rfl, rfl, rfl, by decide +kernel, rfl, by decide +kernel, by decide +kernel⟩
theorem ok_added (Z : Top w K mg) : OkD P w K mg base T 2 "added" 2 d_added := by
  obtain ⟨fd, Fd⟩ := Z.f_added
  refine ⟨⟨fd, ["one", "other"], fn_ok Fd sc_added rfl fun cdv A outer s0 H0 E F0 hr => ?_, Fd.bindsN (ps := ["one", "other"]) (fun _ _ _ _ _ _ us hl => match us, hl with | [_, _], _ => rfl)⟩, Fd.kp, Z.m_added⟩
  have tk : Takes (cxOf (L2.CX P w) P w K mg base N_added "added" (defScope s_added) (He.ga K "added") cdv A outer s0 H0 E) (WofE E) := takes_of rfl rfl rfl rfl
  have po : PassesOwn (model P w) (cxOf (L2.CX P w) P w K mg base N_added "added" (defScope s_added) (He.ga K "added") cdv A outer s0 H0 E).A (cxOf (L2.CX P w) P w K mg base N_added "added" (defScope s_added) (He.ga K "added") cdv A outer s0 H0 E).env (cxOf (L2.CX P w) P w K mg base N_added "added" (defScope s_added) (He.ga K "added") cdv A outer s0 H0 E).xe := passes_of (X := (cxOf (L2.CX P w) P w K mg base N_added "added" (defScope s_added) (He.ga K "added") cdv A outer s0 H0 E)) rfl
  have hu := hr.units
  exact (s_cons (s_copyT (lt2 hu) rfl Z.b_dict bt_dict (a_cons (e_var (pv 0)) a_nil) (pg_name (i := 2) sc_added.nd rfl (Or.inl rfl)))
    (s_cons (s_for po rfl (i_keys rfl (e_var (pv 1))) (g_name (pg_name (i := 3) sc_added.nd rfl (Or.inl rfl))) (s_one (s_putT (lt1 hu) (pv 2) (e_var (pv 3)) (e_bin o_add (e_getO (lt1 hu) (pv 2) (e_var (pv 3)) e_int ⟨rfl, rfl, rfl, rfl⟩) (e_getT (lt1 hu) (e_var (pv 1)) (e_var (pv 3)))) (by intro _; rfl))))
    (s_frzT (i := 2) (s_one (s_ret (e_call (ok_tidy Z) hr tk rfl (a_cons (e_var (pv 2)) a_nil)))))))
theorem sc_taken : FnScope N_taken_v2 ["one", "other"] (defScope s_taken) := ⟨rfl, rfl, rfl, by decide +kernel, rfl, by decide +kernel, by decide +kernel⟩
theorem ok_taken (Z : Top w K mg) : OkD P w K mg base T 3 "taken" 2 d_taken_v2 := by
  obtain ⟨fd, Fd⟩ := Z.f_taken
  refine ⟨⟨fd, ["one", "other"], fn_ok Fd sc_taken rfl fun cdv A outer s0 H0 E F0 hr => ?_, Fd.bindsN (ps := ["one", "other"]) (fun _ _ _ _ _ _ us hl => match us, hl with | [_, _], _ => rfl)⟩, Fd.kp, Z.m_taken⟩
  have tk : Takes (cxOf (L2.CX P w) P w K mg base N_taken_v2 "taken" (defScope s_taken) (He.ga K "taken") cdv A outer s0 H0 E) (WofE E) := takes_of rfl rfl rfl rfl
  have po : PassesOwn (model P w) (cxOf (L2.CX P w) P w K mg base N_taken_v2 "taken" (defScope s_taken) (He.ga K "taken") cdv A outer s0 H0 E).A (cxOf (L2.CX P w) P w K mg base N_taken_v2 "taken" (defScope s_taken) (He.ga K "taken") cdv A outer s0 H0 E).env (cxOf (L2.CX P w) P w K mg base N_taken_v2 "taken" (defScope s_taken) (He.ga K "taken") cdv A outer s0 H0 E).xe := passes_of (X := (cxOf (L2.CX P w) P w K mg base N_taken_v2 "taken" (defScope s_taken) (He.ga K "taken") cdv A outer s0 H0 E)) rfl
  have hu := hr.units
  exact (s_one (s_ret (e_call (ok_added Z) hr tk rfl (a_cons (e_var (pv 0)) (a_cons (e_call (ok_opposite Z) hr tk rfl (a_cons (e_var (pv 1)) a_nil)) a_nil)))))
theorem sc_multiplied : FnScope N_multiplied ["one", "other"] (defScope s_multiplied) := ⟨rfl, rfl, rfl, by decide +kernel, rfl, by decide +kernel, by decide +kernel⟩
theorem ok_multiplied (Z : Top w K mg) : OkD P w K mg base T 2 "multiplied" 2 d_multiplied := by
  obtain ⟨fd, Fd⟩ := Z.f_multiplied
  refine ⟨⟨fd, ["one", "other"], fn_ok Fd sc_multiplied rfl fun cdv A outer s0 H0 E F0 hr => ?_, Fd.bindsN (ps := ["one", "other"]) (fun _ _ _ _ _ _ us hl => match us, hl with | [_, _], _ => rfl)⟩, Fd.kp, Z.m_multiplied⟩
  have tk : Takes (cxOf (L2.CX P w) P w K mg base N_multiplied "multiplied" (defScope s_multiplied) (He.ga K "multiplied") cdv A outer s0 H0 E) (WofE E) := takes_of rfl rfl rfl rfl
  have po : PassesOwn (model P w) (cxOf (L2.CX P w) P w K mg base N_multiplied "multiplied" (defScope s_multiplied) (He.ga K "multiplied") cdv A outer s0 H0 E).A (cxOf (L2.CX P w) P w K mg base N_multiplied "multiplied" (defScope s_multiplied) (He.ga K "multiplied") cdv A outer s0 H0 E).env (cxOf (L2.CX P w) P w K mg base N_multiplied "multiplied" (defScope s_multiplied) (He.ga K "multiplied") cdv A outer s0 H0 E).xe := passes_of (X := (cxOf (L2.CX P w) P w K mg base N_multiplied "multiplied" (defScope s_multiplied) (He.ga K "multiplied") cdv A outer s0 H0 E)) rfl
  have hu := hr.units
  exact (s_cons (s_ownT (pg_name (i := 2) sc_multiplied.nd rfl (Or.inl rfl)))
    (s_cons (s_for po rfl (i_keys rfl (e_var (pv 0))) (g_name (pg_name (i := 3) sc_multiplied.nd rfl (Or.inl rfl))) (s_one (s_for po rfl (i_keys rfl (e_var (pv 1))) (g_name (pg_name (i := 4) sc_multiplied.nd rfl (Or.inl rfl))) (s_cons (s_asg (e_callTy c_tupW rfl Z.b_tuple bt_tuple (a_cons (e_lcG (own := [("a", 6), ("b", 7)]) rfl sc_multiplied.nd (i_zip rfl Z.b_zip (a_offA (a_cons (e_var (pv 3)) (a_cons (e_var (pv 4)) a_nil)))) (blkOk_by (N := N_multiplied) (sc := defScope s_multiplied) (by decide +kernel)) (fun _ _ _ _ _ => (w_tup rfl (ws_cons (w_name (pg_name (i := 6) sc_multiplied.nd rfl (Or.inl rfl))) (ws_cons (w_name (pg_name (i := 7) sc_multiplied.nd rfl (Or.inl rfl))) ws_nil)))) (fun _ _ _ _ _ => ts_nil) (fun _ _ _ _ _ => (e_bin o_add (e_var (pv 6)) (e_var (pv 7))))) a_nil)) (g_name (pg_name (i := 5) sc_multiplied.nd rfl (Or.inl rfl))))
    (s_one (s_putT (lt1 hu) (pv 2) (e_var (pv 5)) (e_bin o_add (e_getO (lt1 hu) (pv 2) (e_var (pv 5)) e_int ⟨rfl, rfl, rfl, rfl⟩) (e_bin o_mul (e_getT (lt1 hu) (e_var (pv 0)) (e_var (pv 3))) (e_getT (lt1 hu) (e_var (pv 1)) (e_var (pv 4))))) (by intro _; rfl)))))))
    (s_frzT (i := 2) (s_one (s_ret (e_call (ok_tidy Z) hr tk rfl (a_cons (e_var (pv 2)) a_nil)))))))
theorem sc_made : FnScope N_made_v2 ["row", "here", "deeds"] (defScope s_made) := ⟨rfl, rfl, rfl, by decide +kernel, rfl, by decide +kernel, by decide +kernel⟩
theorem ok_made (Z : Top w K mg) : OkD P w K mg base T 4 "made" 3 d_made_v2 := by
  obtain ⟨fd, Fd⟩ := Z.f_made
  refine ⟨⟨fd, ["row", "here", "deeds"], fn_ok Fd sc_made rfl fun cdv A outer s0 H0 E F0 hr => ?_, Fd.bindsN (ps := ["row", "here", "deeds"]) (fun _ _ _ _ _ _ us hl => match us, hl with | [_, _, _], _ => rfl)⟩, Fd.kp, Z.m_made⟩
  have tk : Takes (cxOf (L2.CX P w) P w K mg base N_made_v2 "made" (defScope s_made) (He.ga K "made") cdv A outer s0 H0 E) (WofE E) := takes_of rfl rfl rfl rfl
  have po : PassesOwn (model P w) (cxOf (L2.CX P w) P w K mg base N_made_v2 "made" (defScope s_made) (He.ga K "made") cdv A outer s0 H0 E).A (cxOf (L2.CX P w) P w K mg base N_made_v2 "made" (defScope s_made) (He.ga K "made") cdv A outer s0 H0 E).env (cxOf (L2.CX P w) P w K mg base N_made_v2 "made" (defScope s_made) (He.ga K "made") cdv A outer s0 H0 E).xe := passes_of (X := (cxOf (L2.CX P w) P w K mg base N_made_v2 "made" (defScope s_made) (He.ga K "made") cdv A outer s0 H0 E)) rfl
  have hu := hr.units
  exact (s_cons (s_asg (e_var (pv 2)) (g_tup rfl (gs_cons (g_name (pg_name (i := 3) sc_made.nd rfl (Or.inl rfl))) (gs_cons (g_name (pg_name (i := 4) sc_made.nd rfl (Or.inl rfl))) (gs_cons (g_name (pg_name (i := 5) sc_made.nd rfl (Or.inl rfl))) (gs_cons (g_name (pg_name (i := 6) sc_made.nd rfl (Or.inl rfl))) (gs_cons (g_name (pg_name (i := 7) sc_made.nd rfl (Or.inl rfl))) gs_nil)))))))
    (s_cons (s_for po rfl (i_any (e_var (pv 0))) (g_name (pg_name (i := 8) sc_made.nd rfl (Or.inl rfl))) (s_cons (s_if (q_not (q_val (e_call (ok_is_word Z) hr tk rfl (a_cons (e_var (pv 8)) a_nil)))) (s_one (s_raise Z.e_NoKey rfl tk rfl)) s_nil)
    (s_one (s_if (q_cmp (o_in hu) (e_var (pv 8)) (e_gtup (zs := ["plus", "minus", "times"]) Z.m_DEEDS Z.c_DEEDS rfl) (by rfl)) (s_cons (s_asg (e_dix (ks := ["plus", "minus", "times"]) (lt1 hu) (dp_cons (e_var (pv 5)) (dp_cons (e_var (pv 6)) (dp_cons (e_var (pv 7)) dp_nil))) (e_var (pv 8)) (by simp) (by decide) (by decide +kernel) (fun _ _ => rfl)) (g_name (pg_name (i := 9) sc_made.nd rfl (Or.inl rfl))))
    (s_one (s_asg (e_bin o_add (e_tup (a_cons (e_callF (fun n g (h : (if n = "constant" then some (fun ds => if ds.length = 1 then d_constant ds else .bad) else (if n = "opposite" then some (fun ds => if ds.length = 1 then d_opposite_v2 ds else .bad) else (if n = "added" then some (fun ds => if ds.length = 2 then d_added ds else .bad) else (if n = "taken" then some (fun ds => if ds.length = 2 then d_taken_v2 ds else .bad) else (if n = "multiplied" then some (fun ds => if ds.length = 2 then d_multiplied ds else .bad) else none))))) = some g) => (if q : n = "constant" then (by subst q; rw [if_pos rfl] at h; cases h; exact ⟨_, _, _, by omega, ok_constant Z, fun _ => rfl⟩) else (by rw [if_neg q] at h; exact (if q : n = "opposite" then (by subst q; rw [if_pos rfl] at h; cases h; exact ⟨_, _, _, by omega, ok_opposite Z, fun _ => rfl⟩) else (by rw [if_neg q] at h; exact (if q : n = "added" then (by subst q; rw [if_pos rfl] at h; cases h; exact ⟨_, _, _, by omega, ok_added Z, fun _ => rfl⟩) else (by rw [if_neg q] at h; exact (if q : n = "taken" then (by subst q; rw [if_pos rfl] at h; cases h; exact ⟨_, _, _, by omega, ok_taken Z, fun _ => rfl⟩) else (by rw [if_neg q] at h; exact (if q : n = "multiplied" then (by subst q; rw [if_pos rfl] at h; cases h; exact ⟨_, _, _, by omega, ok_multiplied Z, fun _ => rfl⟩) else (by rw [if_neg q] at h; exact (by cases h)))))))))))) hr tk rfl (by first | exact Or.inl rfl | exact Or.inr (Or.inl rfl)) (a_cons (e_ix (e_var (pv 1)) e_int) (a_cons (e_ix (e_var (pv 1)) e_int) a_nil))) (a_cons (e_ix (e_var (pv 1)) e_int) (a_cons (e_ix (e_var (pv 1)) e_int) a_nil)))) (e_sl (e_var (pv 1)) (p_some e_int) p_none)) (g_name (pg_name (i := 1) sc_made.nd rfl (Or.inl rfl)))))) (s_one (s_if (q_cmp (o_eq hu) (e_var (pv 8)) e_str (nomark _)) (s_one (s_asg (e_bin o_add (e_tup (a_cons (e_callF (fun n g (h : (if n = "constant" then some (fun ds => if ds.length = 1 then d_constant ds else .bad) else (if n = "opposite" then some (fun ds => if ds.length = 1 then d_opposite_v2 ds else .bad) else (if n = "added" then some (fun ds => if ds.length = 2 then d_added ds else .bad) else (if n = "taken" then some (fun ds => if ds.length = 2 then d_taken_v2 ds else .bad) else (if n = "multiplied" then some (fun ds => if ds.length = 2 then d_multiplied ds else .bad) else none))))) = some g) => (if q : n = "constant" then (by subst q; rw [if_pos rfl] at h; cases h; exact ⟨_, _, _, by omega, ok_constant Z, fun _ => rfl⟩) else (by rw [if_neg q] at h; exact (if q : n = "opposite" then (by subst q; rw [if_pos rfl] at h; cases h; exact ⟨_, _, _, by omega, ok_opposite Z, fun _ => rfl⟩) else (by rw [if_neg q] at h; exact (if q : n = "added" then (by subst q; rw [if_pos rfl] at h; cases h; exact ⟨_, _, _, by omega, ok_added Z, fun _ => rfl⟩) else (by rw [if_neg q] at h; exact (if q : n = "taken" then (by subst q; rw [if_pos rfl] at h; cases h; exact ⟨_, _, _, by omega, ok_taken Z, fun _ => rfl⟩) else (by rw [if_neg q] at h; exact (if q : n = "multiplied" then (by subst q; rw [if_pos rfl] at h; cases h; exact ⟨_, _, _, by omega, ok_multiplied Z, fun _ => rfl⟩) else (by rw [if_neg q] at h; exact (by cases h)))))))))))) hr tk rfl (by first | exact Or.inl rfl | exact Or.inr (Or.inl rfl)) (a_cons (e_ix (e_var (pv 1)) e_int) a_nil)) a_nil)) (e_sl (e_var (pv 1)) (p_some e_int) p_none)) (g_name (pg_name (i := 1) sc_made.nd rfl (Or.inl rfl))))) (s_one (s_if (q_cmp (o_eq hu) (e_callB c_len rfl Z.b_len bt_len (a_cons (e_var (pv 8)) a_nil)) e_int (nomark _)) (s_one (s_asg (e_bin o_add (e_bin o_add (e_tup (a_cons (e_callF (fun n g (h : (if n = "constant" then some (fun ds => if ds.length = 1 then d_constant ds else .bad) else (if n = "opposite" then some (fun ds => if ds.length = 1 then d_opposite_v2 ds else .bad) else (if n = "added" then some (fun ds => if ds.length = 2 then d_added ds else .bad) else (if n = "taken" then some (fun ds => if ds.length = 2 then d_taken_v2 ds else .bad) else (if n = "multiplied" then some (fun ds => if ds.length = 2 then d_multiplied ds else .bad) else none))))) = some g) => (if q : n = "constant" then (by subst q; rw [if_pos rfl] at h; cases h; exact ⟨_, _, _, by omega, ok_constant Z, fun _ => rfl⟩) else (by rw [if_neg q] at h; exact (if q : n = "opposite" then (by subst q; rw [if_pos rfl] at h; cases h; exact ⟨_, _, _, by omega, ok_opposite Z, fun _ => rfl⟩) else (by rw [if_neg q] at h; exact (if q : n = "added" then (by subst q; rw [if_pos rfl] at h; cases h; exact ⟨_, _, _, by omega, ok_added Z, fun _ => rfl⟩) else (by rw [if_neg q] at h; exact (if q : n = "taken" then (by subst q; rw [if_pos rfl] at h; cases h; exact ⟨_, _, _, by omega, ok_taken Z, fun _ => rfl⟩) else (by rw [if_neg q] at h; exact (if q : n = "multiplied" then (by subst q; rw [if_pos rfl] at h; cases h; exact ⟨_, _, _, by omega, ok_multiplied Z, fun _ => rfl⟩) else (by rw [if_neg q] at h; exact (by cases h)))))))))))) hr tk rfl (by first | exact Or.inl rfl | exact Or.inr (Or.inl rfl)) (a_cons (e_var (pv 8)) a_nil)) a_nil)) (e_sl (e_var (pv 1)) p_none (p_some e_int))) (e_sl (e_var (pv 1)) (p_some e_int) p_none)) (g_name (pg_name (i := 1) sc_made.nd rfl (Or.inl rfl))))) (s_one (s_asg (e_call (ok_moved Z) hr tk rfl (a_cons (e_var (pv 8)) (a_cons (e_var (pv 1)) a_nil))) (g_name (pg_name (i := 1) sc_made.nd rfl (Or.inl rfl)))))))))))))
    (s_one (s_ret (e_var (pv 1))))))
theorem sc_forms : FnScope N_forms ["row"] (defScope s_forms) := ⟨rfl, rfl, rfl, by decide +kernel, rfl, by decide +kernel, by decide +kernel⟩
theorem ok_forms (Z : Top w K mg) : OkD P w K mg base T 5 "forms" 1 d_forms := by
  obtain ⟨fd, Fd⟩ := Z.f_forms
  refine ⟨⟨fd, ["row"], fn_ok Fd sc_forms rfl fun cdv A outer s0 H0 E F0 hr => ?_, Fd.bindsN (ps := ["row"]) (fun _ _ _ _ _ _ us hl => match us, hl with | [_], _ => rfl)⟩, Fd.kp, Z.m_forms⟩
  have tk : Takes (cxOf (L2.CX P w) P w K mg base N_forms "forms" (defScope s_forms) (He.ga K "forms") cdv A outer s0 H0 E) (WofE E) := takes_of rfl rfl rfl rfl
  have po : PassesOwn (model P w) (cxOf (L2.CX P w) P w K mg base N_forms "forms" (defScope s_forms) (He.ga K "forms") cdv A outer s0 H0 E).A (cxOf (L2.CX P w) P w K mg base N_forms "forms" (defScope s_forms) (He.ga K "forms") cdv A outer s0 H0 E).env (cxOf (L2.CX P w) P w K mg base N_forms "forms" (defScope s_forms) (He.ga K "forms") cdv A outer s0 H0 E).xe := passes_of (X := (cxOf (L2.CX P w) P w K mg base N_forms "forms" (defScope s_forms) (He.ga K "forms") cdv A outer s0 H0 E)) rfl
  have hu := hr.units
  exact (s_cons (s_asg (e_callTy c_tup rfl Z.b_tuple bt_tuple (a_cons (e_lc (x := "at") (i := 3) rfl sc_forms.nd (i_rng1 rfl Z.b_range (a_cons (e_gint Z.c_MANY rfl) a_nil)) (blkOk_by (N := N_forms) (sc := defScope s_forms) (by decide +kernel)) (fun _ _ _ _ _ => pg_name (i := 3) sc_forms.nd rfl (Or.inr rfl)) (fun _ _ _ _ _ => ts_nil) (fun _ _ _ _ _ => (e_dispT (lt0 hu) (e_callTy c_tupW rfl Z.b_tuple bt_tuple (a_cons (e_lc (x := "k") (i := 2) rfl sc_forms.nd (i_rng1 rfl Z.b_range (a_cons (e_gint Z.c_MANY rfl) a_nil)) (blkOk_by (N := N_forms) (sc := { kind := .function, names := [(".0", .local), ("at", .cell), ("tuple", .globalImplicit), ("range", .globalImplicit), ("MANY", .globalImplicit)], isGenerator := false, isCoroutine := false }) (by decide +kernel)) (fun _ _ _ _ _ => pg_name (i := 2) sc_forms.nd rfl (Or.inl rfl)) (fun _ _ _ _ _ => ts_nil) (fun _ _ _ _ _ => (e_callTy c_int rfl Z.b_int bt_int (a_cons (e_cmp (o_eq hu) (e_var (pv 2)) (e_var (pv 3)) (nomark _)) a_nil)))) a_nil)) e_int))) a_nil)) (g_name (pg_name (i := 1) sc_forms.nd rfl (Or.inl rfl))))
    (s_cons (s_asg (e_call (ok_made Z) hr tk rfl (a_cons (e_var (pv 0)) (a_cons (e_var (pv 1)) (a_cons (e_tup (a_cons (e_gfn Z.m_constant rfl) (a_cons (e_gfn Z.m_opposite rfl) (a_cons (e_gfn Z.m_added rfl) (a_cons (e_gfn Z.m_taken rfl) (a_cons (e_gfn Z.m_multiplied rfl) a_nil)))))) a_nil)))) (g_name (pg_name (i := 4) sc_forms.nd rfl (Or.inl rfl))))
    (s_one (s_ret (e_callTy c_tup rfl Z.b_tuple bt_tuple (a_cons (e_lc (x := "book") (i := 5) rfl sc_forms.nd (i_any (e_var (pv 4))) (blkOk_by (N := N_forms) (sc := defScope s_forms) (by decide +kernel)) (fun _ _ _ _ _ => pg_name (i := 5) sc_forms.nd rfl (Or.inl rfl)) (fun _ _ _ _ _ => ts_nil) (fun _ _ _ _ _ => (e_callTy c_tupF rfl Z.b_tuple bt_tuple (a_cons (e_sortedB rfl hu rfl Z.b_sorted bt_sorted (e_var (pv 5))) a_nil)))) a_nil))))))
theorem sc_power_of : FnScope N_power_of ["number", "power"] (defScope s_power_of) := ⟨rfl, rfl, rfl, by decide +kernel, rfl, by decide +kernel, by decide +kernel⟩
theorem ok_power_of (Z : Top w K mg) : OkD P w K mg base T 1 "power_of" 2 d_power_of := by
  obtain ⟨fd, Fd⟩ := Z.f_power_of
  refine ⟨⟨fd, ["number", "power"], fn_ok Fd sc_power_of rfl fun cdv A outer s0 H0 E F0 hr => ?_, Fd.bindsN (ps := ["number", "power"]) (fun _ _ _ _ _ _ us hl => match us, hl with | [_, _], _ => rfl)⟩, Fd.kp, Z.m_power_of⟩
  have tk : Takes (cxOf (L2.CX P w) P w K mg base N_power_of "power_of" (defScope s_power_of) (He.ga K "power_of") cdv A outer s0 H0 E) (WofE E) := takes_of rfl rfl rfl rfl
  have po : PassesOwn (model P w) (cxOf (L2.CX P w) P w K mg base N_power_of "power_of" (defScope s_power_of) (He.ga K "power_of") cdv A outer s0 H0 E).A (cxOf (L2.CX P w) P w K mg base N_power_of "power_of" (defScope s_power_of) (He.ga K "power_of") cdv A outer s0 H0 E).env (cxOf (L2.CX P w) P w K mg base N_power_of "power_of" (defScope s_power_of) (He.ga K "power_of") cdv A outer s0 H0 E).xe := passes_of (X := (cxOf (L2.CX P w) P w K mg base N_power_of "power_of" (defScope s_power_of) (He.ga K "power_of") cdv A outer s0 H0 E)) rfl
  have hu := hr.units
  exact (s_cons (s_asg e_int (g_name (pg_name (i := 2) sc_power_of.nd rfl (Or.inl rfl))))
    (s_cons (s_for po rfl (i_rng1 rfl Z.b_range (a_cons (e_var (pv 1)) a_nil)) (g_name (pg_name (i := 3) sc_power_of.nd rfl (Or.inl rfl))) (s_one (s_asg (e_bin o_mul (e_var (pv 2)) (e_var (pv 0))) (g_name (pg_name (i := 2) sc_power_of.nd rfl (Or.inl rfl))))))
    (s_one (s_ret (e_var (pv 2))))))
theorem sc_alike : FnScope N_alike ["one", "other"] (defScope s_alike) := ⟨rfl, rfl, rfl, by decide +kernel, rfl, by decide +kernel, by decide +kernel⟩
theorem ok_alike (Z : Top w K mg) : OkD P w K mg base T 6 "alike" 2 d_alike := by
  obtain ⟨fd, Fd⟩ := Z.f_alike
  refine ⟨⟨fd, ["one", "other"], fn_ok Fd sc_alike rfl fun cdv A outer s0 H0 E F0 hr => ?_, Fd.bindsN (ps := ["one", "other"]) (fun _ _ _ _ _ _ us hl => match us, hl with | [_, _], _ => rfl)⟩, Fd.kp, Z.m_alike⟩
  have tk : Takes (cxOf (L2.CX P w) P w K mg base N_alike "alike" (defScope s_alike) (He.ga K "alike") cdv A outer s0 H0 E) (WofE E) := takes_of rfl rfl rfl rfl
  have po : PassesOwn (model P w) (cxOf (L2.CX P w) P w K mg base N_alike "alike" (defScope s_alike) (He.ga K "alike") cdv A outer s0 H0 E).A (cxOf (L2.CX P w) P w K mg base N_alike "alike" (defScope s_alike) (He.ga K "alike") cdv A outer s0 H0 E).env (cxOf (L2.CX P w) P w K mg base N_alike "alike" (defScope s_alike) (He.ga K "alike") cdv A outer s0 H0 E).xe := passes_of (X := (cxOf (L2.CX P w) P w K mg base N_alike "alike" (defScope s_alike) (He.ga K "alike") cdv A outer s0 H0 E)) rfl
  have hu := hr.units
  exact (s_one (s_ret (e_cmp (o_eq hu) (e_unP (e_call (ok_forms Z) hr tk rfl (a_cons (e_var (pv 0)) a_nil))) (e_unP (e_call (ok_forms Z) hr tk rfl (a_cons (e_var (pv 1)) a_nil))) (nomark _))))
theorem sc_with_value : FnScope N_with_value ["book", "at", "value"] (defScope s_with_value) := ⟨rfl, rfl, rfl, by decide +kernel, rfl, by decide +kernel, by decide +kernel⟩
theorem ok_with_value (Z : Top w K mg) : OkD P w K mg base T 2 "with_value" 3 d_with_value := by
  obtain ⟨fd, Fd⟩ := Z.f_with_value
  refine ⟨⟨fd, ["book", "at", "value"], fn_ok Fd sc_with_value rfl fun cdv A outer s0 H0 E F0 hr => ?_, Fd.bindsN (ps := ["book", "at", "value"]) (fun _ _ _ _ _ _ us hl => match us, hl with | [_, _, _], _ => rfl)⟩, Fd.kp, Z.m_with_value⟩
  have tk : Takes (cxOf (L2.CX P w) P w K mg base N_with_value "with_value" (defScope s_with_value) (He.ga K "with_value") cdv A outer s0 H0 E) (WofE E) := takes_of rfl rfl rfl rfl
  have po : PassesOwn (model P w) (cxOf (L2.CX P w) P w K mg base N_with_value "with_value" (defScope s_with_value) (He.ga K "with_value") cdv A outer s0 H0 E).A (cxOf (L2.CX P w) P w K mg base N_with_value "with_value" (defScope s_with_value) (He.ga K "with_value") cdv A outer s0 H0 E).env (cxOf (L2.CX P w) P w K mg base N_with_value "with_value" (defScope s_with_value) (He.ga K "with_value") cdv A outer s0 H0 E).xe := passes_of (X := (cxOf (L2.CX P w) P w K mg base N_with_value "with_value" (defScope s_with_value) (He.ga K "with_value") cdv A outer s0 H0 E)) rfl
  have hu := hr.units
  exact (s_cons (s_ownT (pg_name (i := 3) sc_with_value.nd rfl (Or.inl rfl)))
    (s_cons (s_for po rfl (i_keys rfl (e_var (pv 0))) (g_name (pg_name (i := 4) sc_with_value.nd rfl (Or.inl rfl))) (s_cons (s_asg (e_bin o_catP (e_bin o_catP (e_slP (e_var (pv 4)) p_none (p_some (e_var (pv 1)))) (e_tupW (a_cons e_int a_nil))) (e_slP (e_var (pv 4)) (p_some (e_bin o_add (e_var (pv 1)) e_int)) p_none)) (g_name (pg_name (i := 5) sc_with_value.nd rfl (Or.inl rfl))))
    (s_one (s_putT (lt1 hu) (pv 3) (e_var (pv 5)) (e_bin o_add (e_getO (lt1 hu) (pv 3) (e_var (pv 5)) e_int ⟨rfl, rfl, rfl, rfl⟩) (e_bin o_mul (e_getT (lt1 hu) (e_var (pv 0)) (e_var (pv 4))) (e_call (ok_power_of Z) hr tk rfl (a_cons (e_var (pv 2)) (a_cons (e_ix (e_unP (e_var (pv 4))) (e_var (pv 1))) a_nil))))) (by intro _; rfl)))))
    (s_frzT (i := 3) (s_one (s_ret (e_call (ok_tidy Z) hr tk rfl (a_cons (e_var (pv 3)) a_nil)))))))
theorem sc_point_of : FnScope N_point_of ["book"] (defScope s_point_of) := ⟨rfl, rfl, rfl, by decide +kernel, rfl, by decide +kernel, by decide +kernel⟩
theorem ok_point_of (Z : Top w K mg) : OkD P w K mg base T 3 "point_of" 1 d_point_of := by
  obtain ⟨fd, Fd⟩ := Z.f_point_of
  refine ⟨⟨fd, ["book"], fn_ok Fd sc_point_of rfl fun cdv A outer s0 H0 E F0 hr => ?_, Fd.bindsN (ps := ["book"]) (fun _ _ _ _ _ _ us hl => match us, hl with | [_], _ => rfl)⟩, Fd.kp, Z.m_point_of⟩
  have tk : Takes (cxOf (L2.CX P w) P w K mg base N_point_of "point_of" (defScope s_point_of) (He.ga K "point_of") cdv A outer s0 H0 E) (WofE E) := takes_of rfl rfl rfl rfl
  have po : PassesOwn (model P w) (cxOf (L2.CX P w) P w K mg base N_point_of "point_of" (defScope s_point_of) (He.ga K "point_of") cdv A outer s0 H0 E).A (cxOf (L2.CX P w) P w K mg base N_point_of "point_of" (defScope s_point_of) (He.ga K "point_of") cdv A outer s0 H0 E).env (cxOf (L2.CX P w) P w K mg base N_point_of "point_of" (defScope s_point_of) (He.ga K "point_of") cdv A outer s0 H0 E).xe := passes_of (X := (cxOf (L2.CX P w) P w K mg base N_point_of "point_of" (defScope s_point_of) (He.ga K "point_of") cdv A outer s0 H0 E)) rfl
  have hu := hr.units
  exact (s_cons (s_asg (e_tup a_nil) (g_name (pg_name (i := 1) sc_point_of.nd rfl (Or.inl rfl))))
    (s_cons (s_for po rfl (i_rng1 rfl Z.b_range (a_cons (e_gint Z.c_MANY rfl) a_nil)) (g_name (pg_name (i := 2) sc_point_of.nd rfl (Or.inl rfl))) (s_cons (s_asg e_int (g_name (pg_name (i := 3) sc_point_of.nd rfl (Or.inl rfl))))
    (s_cons (s_while 100000 po (q_emptyT (lt0 hu) (e_call (ok_with_value Z) hr tk rfl (a_cons (e_var (pv 0)) (a_cons (e_var (pv 2)) (a_cons (e_var (pv 3)) a_nil))))) (s_one (s_asg (e_bin o_add (e_var (pv 3)) e_int) (g_name (pg_name (i := 3) sc_point_of.nd rfl (Or.inl rfl))))))
    (s_cons (s_asg (e_call (ok_with_value Z) hr tk rfl (a_cons (e_var (pv 0)) (a_cons (e_var (pv 2)) (a_cons (e_var (pv 3)) a_nil)))) (g_name (pg_name (i := 0) sc_point_of.nd rfl (Or.inl rfl))))
    (s_one (s_asg (e_bin o_add (e_var (pv 1)) (e_tup (a_cons (e_var (pv 3)) a_nil))) (g_name (pg_name (i := 1) sc_point_of.nd rfl (Or.inl rfl)))))))))
    (s_one (s_ret (e_var (pv 1))))))
theorem sc_parting : FnScope N_parting ["one", "other"] (defScope s_parting) := ⟨rfl, rfl, rfl, by decide +kernel, rfl, by decide +kernel, by decide +kernel⟩
theorem ok_parting (Z : Top w K mg) : OkD P w K mg base T 6 "parting" 2 d_parting := by
  obtain ⟨fd, Fd⟩ := Z.f_parting
  refine ⟨⟨fd, ["one", "other"], fn_ok Fd sc_parting rfl fun cdv A outer s0 H0 E F0 hr => ?_, Fd.bindsN (ps := ["one", "other"]) (fun _ _ _ _ _ _ us hl => match us, hl with | [_, _], _ => rfl)⟩, Fd.kp, Z.m_parting⟩
  have tk : Takes (cxOf (L2.CX P w) P w K mg base N_parting "parting" (defScope s_parting) (He.ga K "parting") cdv A outer s0 H0 E) (WofE E) := takes_of rfl rfl rfl rfl
  have po : PassesOwn (model P w) (cxOf (L2.CX P w) P w K mg base N_parting "parting" (defScope s_parting) (He.ga K "parting") cdv A outer s0 H0 E).A (cxOf (L2.CX P w) P w K mg base N_parting "parting" (defScope s_parting) (He.ga K "parting") cdv A outer s0 H0 E).env (cxOf (L2.CX P w) P w K mg base N_parting "parting" (defScope s_parting) (He.ga K "parting") cdv A outer s0 H0 E).xe := passes_of (X := (cxOf (L2.CX P w) P w K mg base N_parting "parting" (defScope s_parting) (He.ga K "parting") cdv A outer s0 H0 E)) rfl
  have hu := hr.units
  exact (s_cons (s_for po rfl (i_zip rfl Z.b_zip (a_cons (e_call (ok_forms Z) hr tk rfl (a_cons (e_var (pv 0)) a_nil)) (a_cons (e_call (ok_forms Z) hr tk rfl (a_cons (e_var (pv 1)) a_nil)) a_nil))) (g_tup rfl (gs_cons (g_name (pg_name (i := 2) sc_parting.nd rfl (Or.inl rfl))) (gs_cons (g_name (pg_name (i := 3) sc_parting.nd rfl (Or.inl rfl))) gs_nil))) (s_one (s_if (q_cmp (o_ne hu) (e_unP (e_var (pv 2))) (e_unP (e_var (pv 3))) (nomark _)) (s_one (s_ret (e_call (ok_point_of Z) hr tk rfl (a_cons (e_call (ok_taken Z) hr tk rfl (a_cons (e_dictF rfl hu rfl Z.b_dict bt_dict (a_cons (e_var (pv 2)) a_nil)) (a_cons (e_dictF rfl hu rfl Z.b_dict bt_dict (a_cons (e_var (pv 3)) a_nil)) a_nil))) a_nil)))) s_nil)))
    (s_one (s_ret e_non)))
theorem sc__law_cell_at : FnScope N__law_cell_at ["script", "k"] (defScope s__law_cell_at) := ⟨rfl, rfl, rfl, by decide +kernel, rfl, by decide +kernel, by decide +kernel⟩
theorem ok__law_cell_at (Z : Top w K mg) : OkD P w K mg base T 1 "_law_cell_at" 2 d__law_cell_at := by
  obtain ⟨fd, Fd⟩ := Z.f__law_cell_at
  refine ⟨⟨fd, ["script", "k"], fn_ok Fd sc__law_cell_at rfl fun cdv A outer s0 H0 E F0 hr => ?_, Fd.bindsN (ps := ["script", "k"]) (fun _ _ _ _ _ _ us hl => match us, hl with | [_, _], _ => rfl)⟩, Fd.kp, Z.m__law_cell_at⟩
  have tk : Takes (cxOf (L2.CX P w) P w K mg base N__law_cell_at "_law_cell_at" (defScope s__law_cell_at) (He.ga K "_law_cell_at") cdv A outer s0 H0 E) (WofE E) := takes_of rfl rfl rfl rfl
  have po : PassesOwn (model P w) (cxOf (L2.CX P w) P w K mg base N__law_cell_at "_law_cell_at" (defScope s__law_cell_at) (He.ga K "_law_cell_at") cdv A outer s0 H0 E).A (cxOf (L2.CX P w) P w K mg base N__law_cell_at "_law_cell_at" (defScope s__law_cell_at) (He.ga K "_law_cell_at") cdv A outer s0 H0 E).env (cxOf (L2.CX P w) P w K mg base N__law_cell_at "_law_cell_at" (defScope s__law_cell_at) (He.ga K "_law_cell_at") cdv A outer s0 H0 E).xe := passes_of (X := (cxOf (L2.CX P w) P w K mg base N__law_cell_at "_law_cell_at" (defScope s__law_cell_at) (He.ga K "_law_cell_at") cdv A outer s0 H0 E)) rfl
  have hu := hr.units
  exact (s_cons (s_if (q_cmp o_lt (e_var (pv 1)) (e_callB c_len rfl Z.b_len bt_len (a_cons (e_var (pv 0)) a_nil)) (nomark _)) (s_one (s_ret (e_ix (e_var (pv 0)) (e_var (pv 1))))) s_nil)
    (s_one (s_ret e_int)))
theorem sc__law_mixed : FnScope N__law_mixed ["script", "k"] (defScope s__law_mixed) := ⟨rfl, rfl, rfl, by decide +kernel, rfl, by decide +kernel, by decide +kernel⟩
theorem ok__law_mixed (Z : Top w K mg) : OkD P w K mg base T 2 "_law_mixed" 2 d__law_mixed := by
  obtain ⟨fd, Fd⟩ := Z.f__law_mixed
  refine ⟨⟨fd, ["script", "k"], fn_ok Fd sc__law_mixed rfl fun cdv A outer s0 H0 E F0 hr => ?_, Fd.bindsN (ps := ["script", "k"]) (fun _ _ _ _ _ _ us hl => match us, hl with | [_, _], _ => rfl)⟩, Fd.kp, Z.m__law_mixed⟩
  have tk : Takes (cxOf (L2.CX P w) P w K mg base N__law_mixed "_law_mixed" (defScope s__law_mixed) (He.ga K "_law_mixed") cdv A outer s0 H0 E) (WofE E) := takes_of rfl rfl rfl rfl
  have po : PassesOwn (model P w) (cxOf (L2.CX P w) P w K mg base N__law_mixed "_law_mixed" (defScope s__law_mixed) (He.ga K "_law_mixed") cdv A outer s0 H0 E).A (cxOf (L2.CX P w) P w K mg base N__law_mixed "_law_mixed" (defScope s__law_mixed) (He.ga K "_law_mixed") cdv A outer s0 H0 E).env (cxOf (L2.CX P w) P w K mg base N__law_mixed "_law_mixed" (defScope s__law_mixed) (He.ga K "_law_mixed") cdv A outer s0 H0 E).xe := passes_of (X := (cxOf (L2.CX P w) P w K mg base N__law_mixed "_law_mixed" (defScope s__law_mixed) (He.ga K "_law_mixed") cdv A outer s0 H0 E)) rfl
  have hu := hr.units
  exact (s_cons (s_asg (e_bin o_mod (e_bin o_mul (e_bin o_add (e_bin o_add (e_call (ok__law_cell_at Z) hr tk rfl (a_cons (e_var (pv 0)) (a_cons (e_var (pv 1)) a_nil))) (e_bin o_mul e_int (e_var (pv 1)))) e_int) e_int) e_int) (g_name (pg_name (i := 2) sc__law_mixed.nd rfl (Or.inl rfl))))
    (s_one (s_ret (e_bin o_mod (e_bin o_add (e_bin o_add (e_bin o_mul (e_var (pv 2)) (e_var (pv 2))) (e_bin o_mul e_int (e_var (pv 2)))) (e_var (pv 1))) e_int))))
theorem sc__law_drawn : FnScope N__law_drawn ["number", "k"] (defScope s__law_drawn) := ⟨rfl, rfl, rfl, by decide +kernel, rfl, by decide +kernel, by decide +kernel⟩
theorem ok__law_drawn (Z : Top w K mg) : OkD P w K mg base T 1 "_law_drawn" 2 d__law_drawn := by
  obtain ⟨fd, Fd⟩ := Z.f__law_drawn
  refine ⟨⟨fd, ["number", "k"], fn_ok Fd sc__law_drawn rfl fun cdv A outer s0 H0 E F0 hr => ?_, Fd.bindsN (ps := ["number", "k"]) (fun _ _ _ _ _ _ us hl => match us, hl with | [_, _], _ => rfl)⟩, Fd.kp, Z.m__law_drawn⟩
  have tk : Takes (cxOf (L2.CX P w) P w K mg base N__law_drawn "_law_drawn" (defScope s__law_drawn) (He.ga K "_law_drawn") cdv A outer s0 H0 E) (WofE E) := takes_of rfl rfl rfl rfl
  have po : PassesOwn (model P w) (cxOf (L2.CX P w) P w K mg base N__law_drawn "_law_drawn" (defScope s__law_drawn) (He.ga K "_law_drawn") cdv A outer s0 H0 E).A (cxOf (L2.CX P w) P w K mg base N__law_drawn "_law_drawn" (defScope s__law_drawn) (He.ga K "_law_drawn") cdv A outer s0 H0 E).env (cxOf (L2.CX P w) P w K mg base N__law_drawn "_law_drawn" (defScope s__law_drawn) (He.ga K "_law_drawn") cdv A outer s0 H0 E).xe := passes_of (X := (cxOf (L2.CX P w) P w K mg base N__law_drawn "_law_drawn" (defScope s__law_drawn) (He.ga K "_law_drawn") cdv A outer s0 H0 E)) rfl
  have hu := hr.units
  exact (s_cons (s_asg (e_bin o_mod (e_bin o_mul (e_bin o_add (e_bin o_add (e_var (pv 0)) (e_bin o_mul e_int (e_var (pv 1)))) e_int) e_int) e_int) (g_name (pg_name (i := 2) sc__law_drawn.nd rfl (Or.inl rfl))))
    (s_one (s_ret (e_bin o_mod (e_bin o_add (e_bin o_add (e_bin o_mul (e_var (pv 2)) (e_var (pv 2))) (e_bin o_mul e_int (e_var (pv 2)))) (e_var (pv 1))) e_int))))
theorem sc__law_plain : FnScope N__law_plain ["number", "most"] (defScope s__law_plain) := ⟨rfl, rfl, rfl, by decide +kernel, rfl, by decide +kernel, by decide +kernel⟩
theorem ok__law_plain (Z : Top w K mg) : OkD P w K mg base T 2 "_law_plain" 2 d__law_plain := by
  obtain ⟨fd, Fd⟩ := Z.f__law_plain
  refine ⟨⟨fd, ["number", "most"], fn_ok Fd sc__law_plain rfl fun cdv A outer s0 H0 E F0 hr => ?_, Fd.bindsN (ps := ["number", "most"]) (fun _ _ _ _ _ _ us hl => match us, hl with | [_, _], _ => rfl)⟩, Fd.kp, Z.m__law_plain⟩
  have tk : Takes (cxOf (L2.CX P w) P w K mg base N__law_plain "_law_plain" (defScope s__law_plain) (He.ga K "_law_plain") cdv A outer s0 H0 E) (WofE E) := takes_of rfl rfl rfl rfl
  have po : PassesOwn (model P w) (cxOf (L2.CX P w) P w K mg base N__law_plain "_law_plain" (defScope s__law_plain) (He.ga K "_law_plain") cdv A outer s0 H0 E).A (cxOf (L2.CX P w) P w K mg base N__law_plain "_law_plain" (defScope s__law_plain) (He.ga K "_law_plain") cdv A outer s0 H0 E).env (cxOf (L2.CX P w) P w K mg base N__law_plain "_law_plain" (defScope s__law_plain) (He.ga K "_law_plain") cdv A outer s0 H0 E).xe := passes_of (X := (cxOf (L2.CX P w) P w K mg base N__law_plain "_law_plain" (defScope s__law_plain) (He.ga K "_law_plain") cdv A outer s0 H0 E)) rfl
  have hu := hr.units
  exact (s_cons (s_asg (e_lst (a_cons e_str (a_cons e_str (a_cons e_str (a_cons e_str (a_cons e_str (a_cons e_str (a_cons e_str (a_cons e_str (a_cons e_str (a_cons e_str (a_cons e_str (a_cons e_str (a_cons e_str (a_cons e_str a_nil))))))))))))))) (g_name (pg_name (i := 2) sc__law_plain.nd rfl (Or.inr rfl))))
    (s_cons (s_asg (e_bin o_add (e_var (pv 2)) (e_lst (a_cons e_str (a_cons e_str (a_cons e_str (a_cons e_str (a_cons e_str (a_cons e_str (a_cons e_str (a_cons e_str (a_cons e_str (a_cons e_str a_nil)))))))))))) (g_name (pg_name (i := 2) sc__law_plain.nd rfl (Or.inr rfl))))
    (s_one (s_ret (e_callTy c_tup rfl Z.b_tuple bt_tuple (a_cons (e_lc (x := "k") (i := 3) rfl sc__law_plain.nd (i_rng1 rfl Z.b_range (a_cons (e_bin o_mod (e_var (pv 0)) (e_bin o_add (e_var (pv 1)) e_int)) a_nil)) (blkOk_by (N := N__law_plain) (sc := defScope s__law_plain) (by decide +kernel)) (fun _ _ _ _ _ => pg_name (i := 3) sc__law_plain.nd rfl (Or.inl rfl)) (fun _ _ _ _ _ => ts_nil) (fun _ _ _ _ _ => (e_ix (e_var (pv 2)) (e_bin o_mod (e_bin o_div (e_call (ok__law_drawn Z) hr L2.takes0 rfl (a_cons (e_var (pv 0)) (a_cons (e_var (pv 3)) a_nil))) e_int) e_int)))) a_nil))))))
def N_law : List Str := ["script", "row", "number", "at", "one", "other", "k", "mine", "yours"]
def t11_law : Rho → SR :=
  (sret (bop isBl (callD 2 d_alike (acons (bop addD (var 1) (mkT (acons (con (.str "7")) (acons (con (.str "put2")) anil)))) (acons (bop addD (var 1) (mkT (acons (con (.str "8")) (acons (con (.str "put2")) anil)))) anil))) (con (.bl false))))
def t10_law : Rho → SR :=
  sseq (sif (orQ (tst (bop isNotBl (callD 2 d_alike (acons (var 7) (acons (var 8) anil))) (con (.bl true)))) (orQ (tst (bop isNotN (callD 2 d_parting (acons (var 7) (acons (var 8) anil))) (con .non))) (tst (bop isNotN (callD 2 d_parting (acons (var 8) (acons (var 7) anil))) (con .non))))) (sret (con (.bl false))) sskip) (t11_law)
def t9_law : Rho → SR :=
  sseq (sasg (bop addD (bop addD (slc (var 1) pno (psm (var 3))) (bop ixD (var 5) (var 6))) (slc (var 1) (psm (var 3)) pno)) (gn 8)) (t10_law)
def t8_law : Rho → SR :=
  sseq (sasg (bop addD (bop addD (slc (var 1) pno (psm (var 3))) (bop ixD (var 4) (var 6))) (slc (var 1) (psm (var 3)) pno)) (gn 7)) (t9_law)
def t7_law : Rho → SR :=
  sseq (sasg (bop modD (var 2) (con (.int 10))) (gn 6)) (t8_law)
def t6_law : Rho → SR :=
  sseq (sasg (bop addD (var 5) (mkT (acons (mkT (acons (con (.str "0")) (acons (con (.str "times")) anil))) (acons (mkT (acons (con (.str "put1")) anil)) anil)))) (gn 5)) (t7_law)
def t5_law : Rho → SR :=
  sseq (sasg (mkT (acons (mkT anil) (acons (mkT anil) (acons (mkT anil) (acons (mkT (acons (con (.str "sign")) (acons (con (.str "plus")) anil))) (acons (mkT (acons (con (.str "plus")) anil)) (acons (mkT (acons (con (.str "times")) anil)) (acons (mkT (acons (con (.str "minus")) (acons (con (.str "sign")) anil))) (acons (mkT (acons (con (.str "2")) (acons (con (.str "times")) anil))) anil))))))))) (gn 5)) (t6_law)
def t4_law : Rho → SR :=
  sseq (sasg (bop addD (var 4) (mkT (acons (mkT (acons (con (.str "swap")) (acons (con (.str "minus")) anil))) (acons (mkT (acons (con (.str "enter")) (acons (con (.str "plus")) anil))) (acons (mkT (acons (con (.str "enter")) (acons (con (.str "minus")) anil))) (acons (mkT (acons (con (.str "put1")) (acons (con (.str "put1")) anil))) anil)))))) (gn 4)) (t5_law)
def t3_law : Rho → SR :=
  sseq (sasg (mkT (acons (mkT (acons (con (.str "swap")) (acons (con (.str "swap")) anil))) (acons (bop mulAD (mkT (acons (con (.str "roll")) anil)) (con (.int 4))) (acons (mkT (acons (con (.str "sign")) (acons (con (.str "sign")) anil))) (acons (mkT (acons (con (.str "minus")) anil)) (acons (mkT (acons (con (.str "swap")) (acons (con (.str "plus")) anil))) (acons (mkT (acons (con (.str "swap")) (acons (con (.str "times")) anil))) anil))))))) (gn 4)) (t4_law)
def t2_law : Rho → SR :=
  sseq (sasg (bop modD (bop divD (var 2) (con (.int 16))) (bop addD (cal lenD (acons (var 1) anil)) (con (.int 1)))) (gn 3)) (t3_law)
def t1_law : Rho → SR :=
  sseq (sasg (callD 2 d__law_mixed (acons (var 0) (acons (con (.int 1)) anil))) (gn 2)) (t2_law)
def g_law : Rho → SR :=
  sseq (sasg (callD 2 d__law_plain (acons (callD 2 d__law_mixed (acons (var 0) (acons (con (.int 0)) anil))) (acons (con (.int 8)) anil))) (gn 1)) (t1_law)
def d_law (ds : List D) : Res D := runB 9 g_law ds
theorem v_law {a0 : D} : d_law [a0] = finR (g_law [.z a0, .u, .u, .u, .u, .u, .u, .u, .u]) := runB_eq rfl
theorem sc_law : FnScope N_law ["script"] (defScope s_law) := ⟨rfl, rfl, rfl, by decide +kernel, rfl, by decide +kernel, by decide +kernel⟩
theorem law_fn (Z : Top w K mg) {fd : FuncData} (Fd : FunD K "law" "law" (defArgs s_law) (defBody s_law) (defScope s_law) [] [] (He.ga K "law") fd) : FnOk P w K mg base (L2.CX P w) 7 (He.ga K "law") fd ["script"] (spD K T 1 d_law) := by
  refine fn_ok Fd sc_law rfl fun cdv A outer s0 H0 E F0 hr => ?_
  have tk : Takes (cxOf (L2.CX P w) P w K mg base N_law "law" (defScope s_law) (He.ga K "law") cdv A outer s0 H0 E) (WofE E) := takes_of rfl rfl rfl rfl
  have po : PassesOwn (model P w) (cxOf (L2.CX P w) P w K mg base N_law "law" (defScope s_law) (He.ga K "law") cdv A outer s0 H0 E).A (cxOf (L2.CX P w) P w K mg base N_law "law" (defScope s_law) (He.ga K "law") cdv A outer s0 H0 E).env (cxOf (L2.CX P w) P w K mg base N_law "law" (defScope s_law) (He.ga K "law") cdv A outer s0 H0 E).xe := passes_of (X := (cxOf (L2.CX P w) P w K mg base N_law "law" (defScope s_law) (He.ga K "law") cdv A outer s0 H0 E)) rfl
  have hu := hr.units
  exact (s_cons (s_asg (e_call (ok__law_plain Z) hr tk rfl (a_cons (e_call (ok__law_mixed Z) hr tk rfl (a_cons (e_var (pv 0)) (a_cons e_int a_nil))) (a_cons e_int a_nil))) (g_name (pg_name (i := 1) sc_law.nd rfl (Or.inl rfl))))
    (s_cons (s_asg (e_call (ok__law_mixed Z) hr tk rfl (a_cons (e_var (pv 0)) (a_cons e_int a_nil))) (g_name (pg_name (i := 2) sc_law.nd rfl (Or.inl rfl))))
    (s_cons (s_asg (e_bin o_mod (e_bin o_div (e_var (pv 2)) e_int) (e_bin o_add (e_callB c_len rfl Z.b_len bt_len (a_cons (e_var (pv 1)) a_nil)) e_int)) (g_name (pg_name (i := 3) sc_law.nd rfl (Or.inl rfl))))
    (s_cons (s_asg (e_tup (a_cons (e_tup (a_cons e_str (a_cons e_str a_nil))) (a_cons (e_bin o_mulA (e_tup (a_cons e_str a_nil)) e_int) (a_cons (e_tup (a_cons e_str (a_cons e_str a_nil))) (a_cons (e_tup (a_cons e_str a_nil)) (a_cons (e_tup (a_cons e_str (a_cons e_str a_nil))) (a_cons (e_tup (a_cons e_str (a_cons e_str a_nil))) a_nil))))))) (g_name (pg_name (i := 4) sc_law.nd rfl (Or.inl rfl))))
    (s_cons (s_asg (e_bin o_add (e_var (pv 4)) (e_tup (a_cons (e_tup (a_cons e_str (a_cons e_str a_nil))) (a_cons (e_tup (a_cons e_str (a_cons e_str a_nil))) (a_cons (e_tup (a_cons e_str (a_cons e_str a_nil))) (a_cons (e_tup (a_cons e_str (a_cons e_str a_nil))) a_nil)))))) (g_name (pg_name (i := 4) sc_law.nd rfl (Or.inl rfl))))
    (s_cons (s_asg (e_tup (a_cons (e_tup a_nil) (a_cons (e_tup a_nil) (a_cons (e_tup a_nil) (a_cons (e_tup (a_cons e_str (a_cons e_str a_nil))) (a_cons (e_tup (a_cons e_str a_nil)) (a_cons (e_tup (a_cons e_str a_nil)) (a_cons (e_tup (a_cons e_str (a_cons e_str a_nil))) (a_cons (e_tup (a_cons e_str (a_cons e_str a_nil))) a_nil))))))))) (g_name (pg_name (i := 5) sc_law.nd rfl (Or.inl rfl))))
    (s_cons (s_asg (e_bin o_add (e_var (pv 5)) (e_tup (a_cons (e_tup (a_cons e_str (a_cons e_str a_nil))) (a_cons (e_tup (a_cons e_str a_nil)) a_nil)))) (g_name (pg_name (i := 5) sc_law.nd rfl (Or.inl rfl))))
    (s_cons (s_asg (e_bin o_mod (e_var (pv 2)) e_int) (g_name (pg_name (i := 6) sc_law.nd rfl (Or.inl rfl))))
    (s_cons (s_asg (e_bin o_add (e_bin o_add (e_sl (e_var (pv 1)) p_none (p_some (e_var (pv 3)))) (e_ix (e_var (pv 4)) (e_var (pv 6)))) (e_sl (e_var (pv 1)) (p_some (e_var (pv 3))) p_none)) (g_name (pg_name (i := 7) sc_law.nd rfl (Or.inl rfl))))
    (s_cons (s_asg (e_bin o_add (e_bin o_add (e_sl (e_var (pv 1)) p_none (p_some (e_var (pv 3)))) (e_ix (e_var (pv 5)) (e_var (pv 6)))) (e_sl (e_var (pv 1)) (p_some (e_var (pv 3))) p_none)) (g_name (pg_name (i := 8) sc_law.nd rfl (Or.inl rfl))))
    (s_cons (s_if (q_w (w_or (q_cmp o_isNotB (e_call (ok_alike Z) hr tk rfl (a_cons (e_var (pv 7)) (a_cons (e_var (pv 8)) a_nil))) e_bl (nomark _)) (w_or (q_cmp o_isNot (e_call (ok_parting Z) hr tk rfl (a_cons (e_var (pv 7)) (a_cons (e_var (pv 8)) a_nil))) e_non (nomark _)) (w_or1 (q_cmp o_isNot (e_call (ok_parting Z) hr tk rfl (a_cons (e_var (pv 8)) (a_cons (e_var (pv 7)) a_nil))) e_non (nomark _)))))) (s_one (s_ret e_bl)) s_nil)
    (s_one (s_ret (e_cmp o_isB (e_call (ok_alike Z) hr tk rfl (a_cons (e_bin o_add (e_var (pv 1)) (e_tup (a_cons e_str (a_cons e_str a_nil)))) (a_cons (e_bin o_add (e_var (pv 1)) (e_tup (a_cons e_str (a_cons e_str a_nil)))) a_nil))) e_bl (nomark _)))))))))))))))
end
theorem x_cell {ns : List Int} {k : Int} (h : 0 ≤ k) : ∃ c, d__law_cell_at [.arr ns, .int k] = .ok (.int c) := by
  by_cases hk : k < ns.length
  · have hi : ∃ c, ixD (.arr ns) (.int k) = some (.int c) := by
      refine ⟨ns.getD k.toNat 0, ?_⟩
      show (atI ns k).map D.int = _
      unfold atI ixN
      rw [if_pos h, if_pos hk]
      show (ns[k.toNat]?).map D.int = _
      rw [List.getElem?_eq_getElem (by omega), List.getD_eq_getElem?_getD, List.getElem?_eq_getElem (by omega)]
      rfl
    obtain ⟨c, hc⟩ := hi
    exact ⟨c, by simp?! [v__law_cell_at, g__law_cell_at, t1__law_cell_at, hk, hc]⟩
  · exact ⟨0, by simp?! [v__law_cell_at, g__law_cell_at, t1__law_cell_at, hk]⟩
theorem x_mixed {ns : List Int} {k : Int} (h : 0 ≤ k) (h2 : k < 1000) : ∃ m, d__law_mixed [.arr ns, .int k] = .ok (.int m) ∧ 0 ≤ m ∧ m < 2147483629 := by
  obtain ⟨c, hc⟩ := x_cell (ns := ns) h
  simp?! [v__law_mixed, g__law_mixed, t1__law_mixed, hc]
  exact ⟨_, rfl, Int.emod_nonneg _ (by decide), Int.emod_lt_of_pos _ (by decide)⟩
theorem x_drawn {n k : Int} (h : 0 ≤ k) (h2 : k < 1000) : ∃ m, d__law_drawn [.int n, .int k] = .ok (.int m) ∧ 0 ≤ m ∧ m < 2147483629 := by
  simp?! [v__law_drawn, g__law_drawn, t1__law_drawn]
  exact ⟨_, rfl, Int.emod_nonneg _ (by decide), Int.emod_lt_of_pos _ (by decide)⟩
/-! the law's own numbers -/
/-! heights -/
/-! _law_ten -/
theorem rng1_eq {f : Rho → Res (List D)} {ρ : Rho} {j : Int} (h : f ρ = .ok [.int j]) (h1 : 0 ≤ j) (h2 : j < 5000) : rng1 f ρ = .ok (rngD 0 j.toNat) := by
  unfold rng1
  rw [h]
  simp only [Res.bind]
  rw [if_pos ⟨by omega, by omega⟩]
theorem rngD_len {i : Int} {n : Nat} : (rngD i n).length = n := by unfold rngD; rw [List.length_map, List.length_range]
/-! exact and what it calls -/
/-! the law's exact -/
/-! manners -/
/-! comparing, comprehensions -/
mutual
theorem eqd_refl : ∀ (n : Nat) (d : D), plain n d = true → eqd d d = true
  | _, .non, _ => rfl
  | _, .bl b, _ => by simp [eqd]
  | _, .int i, _ => by simp [eqd]
  | _, .str x, _ => by simp [eqd]
  | n, .lst xs, h => by
    cases n with
    | zero => cases h
    | succ n => exact eqds_refl n xs h
  | n, .tup xs, h => by
    cases n with
    | zero => cases h
    | succ n => exact eqds_refl n xs h
  | n, .fn _, h => by cases n <;> cases h
  | n, .ty _, h => by cases n <;> cases h
  | n, .dK _, h => by cases n <;> cases h
  | n, .dT _, h => by cases n <;> cases h
  | n, .arr _, h => by cases n <;> cases h
  | n, .pro _, h => by cases n <;> cases h
theorem eqds_refl : ∀ (n : Nat) (ds : List D), plains n ds = true → eqds ds ds = true
  | _, [], _ => rfl
  | n, d :: ds, h => by
    have h : (plain n d && plains n ds) = true := h
    rw [Bool.and_eq_true] at h
    show (eqd d d && eqds ds ds) = true
    rw [eqd_refl n d h.1, eqds_refl n ds h.2]
    rfl
end
theorem ne_same {d : D} (h : plain 64 d = true) : neD d d = some (.bl false) := by
  unfold neD eqOk
  rw [h, Bool.and_self, Bool.and_self, Bool.or_true, if_pos rfl, eqd_refl 64 d h]
  rfl
theorem comp_t {g : Tg} {t : Rho → Res Bool} {e : Rho → Res D} {ρ ρ1 : Rho} {d y : D} {ds ys : List D} (h : g ρ d = some ρ1) (h2 : t ρ1 = .ok true) (h3 : e ρ1 = .ok y) (h4 : compD g t e ρ ds = .ok ys) : compD g t e ρ (d :: ds) = .ok (y :: ys) := by
  rw [compD, h]
  simp only
  rw [h2]
  simp only [if_true]
  rw [h3]
  simp only
  rw [h4]
  rfl
theorem lc_eq {f : Rho → Res (List D)} {i : Nat} {t : Rho → Res Bool} {e : Rho → Res D} {ρ : Rho} {ds ys : List D} (h : f ρ = .ok ds) (hl : ds.length ≤ 1000000) (h2 : compD (gn i) t e (ρ.set i .u) ds = .ok ys) : lcD f i t e ρ = .ok (.lst ys) := by
  unfold lcD
  rw [h]
  simp only [Res.bind]
  rw [if_pos (by rw [sizeLine_eq]; omega), h2]
/-! plus, minus, times, over, less, and the law's deed -/
/-! the law's -/
def tv : Option (Int × Int) → D
  | none => .tup [.str "refused", .int 0]
  | some (a, b) => .tup [.str "told", .tup [.int a, .int b]]
/-! formulas -/
inductive Tw where | plus | minus | times
  deriving DecidableEq
def Tw.s : Tw → Str
  | .plus => "plus" | .minus => "minus" | .times => "times"
inductive Fm where | name (k : Nat) | num (n : Nat) | sign (f : Fm) | two (w : Tw) (f g : Fm)
def Fm.D : Fm → DN.D
  | .name k => .tup [.str "name", .int k]
  | .num n => .tup [.str "number", .int n]
  | .sign f => .tup [.str "sign", f.D]
  | .two w f g => .tup [.str w.s, f.D, g.D]
def Fm.Ok : Fm → Prop
  | .name k => k < 3
  | .num n => n < 10
  | .sign f => f.Ok
  | .two _ f g => f.Ok ∧ g.Ok
/-! things -/
mutual
def tg (L : Nat) : Nat → DN.D → Bool
  | _, .non => true
  | _, .bl _ => true
  | _, .int _ => true
  | _, .str x => PyData.strOk x
  | n + 1, .lst xs => decide (xs.length ≤ L) && tgs L n xs
  | n + 1, .tup xs => decide (xs.length ≤ L) && tgs L n xs
  | _, _ => false
def tgs (L : Nat) : Nat → List DN.D → Bool
  | _, [] => true
  | n, x :: xs => tg L n x && tgs L n xs
end
/-! plain data, deeper -/
/-! is_formula -/
theorem its_tup {f : Rho → Res D} {ds : List D} {ρ : Rho} (h : f ρ = .ok (.tup ds)) : its f ρ = .ok ds := by
  unfold its
  rw [h]
  rfl
/-! the law's is -/
/-! values -/
def Tw.op : Tw → Int → Int → Int
  | .plus, a, b => a + b | .minus, a, b => a - b | .times, a, b => a * b
def Fm.val (bx : List Int) : Fm → Int
  | .name k => bx.getD k 0
  | .num n => n
  | .sign f => -f.val bx
  | .two w f g => w.op (f.val bx) (g.val bx)
/-! lists -/
theorem comp_map {α : Type} {f : α → D} {i : Nat} {e : Rho → Res D} {ρ : Rho} : ∀ (ds : List D), (∀ d ∈ ds, ∃ a, e (ρ.set i (.z d)) = .ok (f a)) → ∃ as : List α, as.length = ds.length ∧ compD (gn i) yes e ρ ds = .ok (as.map f)
  | [], _ => ⟨[], rfl, rfl⟩
  | d :: ds, h => by
    obtain ⟨a, ha⟩ := h d List.mem_cons_self
    obtain ⟨as, h1, h2⟩ := comp_map (f := f) (i := i) (e := e) (ρ := ρ) ds fun x hx => h x (List.mem_cons_of_mem _ hx)
    exact ⟨a :: as, by simp [h1], comp_t (show gn i ρ d = some (ρ.set i (.z d)) from rfl) rfl ha h2⟩
theorem rngD_mem {n : Nat} {d : D} (h : d ∈ rngD 0 n) : ∃ j : Nat, j < n ∧ d = .int (j : Int) := by
  unfold rngD at h
  obtain ⟨j, hj, rfl⟩ := List.mem_map.mp h
  exact ⟨j, List.mem_range.mp hj, by simp⟩
theorem add_tt {a b : List D} (h : a.length + b.length ≤ 1000) : addD (.tup a) (.tup b) = some (.tup (a ++ b)) := by
  show (if a.length + b.length ≤ sizeLine then some (D.tup (a ++ b)) else none) = _
  rw [if_pos (by rw [sizeLine_eq]; omega)]
theorem sl_hiT {α : Type} {f : α → D} {l : List α} {i : Int} (h0 : 0 ≤ i) (h1 : i ≤ l.length) (h2 : l.length ≤ 1000) : slD (.tup (l.map f)) none (some i) = some (.tup ((l.take i.toNat).map f)) := by
  have hl : (l.map f).length = l.length := List.length_map f
  show some (D.tup (DN.cutD (l.map f) none (some i))) = _
  unfold DN.cutD
  rw [HT.sIx_none, hl]
  obtain ⟨n, rfl⟩ := Int.eq_ofNat_of_zero_le h0
  rw [show HT.sIx l.length l.length (some (n : Int)) = min n l.length from HT.sIx_nat _ _ n]
  rw [List.drop_zero, Nat.sub_zero, Int.toNat_natCast, List.map_take]
  congr 2
  rw [Nat.min_eq_left (by omega)]
theorem sl_loT {α : Type} {f : α → D} {l : List α} {i : Int} (h0 : 0 ≤ i) (h1 : i ≤ l.length) (h2 : l.length ≤ 1000) : slD (.tup (l.map f)) (some i) none = some (.tup ((l.drop i.toNat).map f)) := by
  have hl : (l.map f).length = l.length := List.length_map f
  show some (D.tup (DN.cutD (l.map f) (some i) none)) = _
  unfold DN.cutD
  rw [HT.sIx_none, hl]
  obtain ⟨n, rfl⟩ := Int.eq_ofNat_of_zero_le h0
  rw [show HT.sIx l.length 0 (some (n : Int)) = min n l.length from HT.sIx_nat _ _ n]
  rw [Int.toNat_natCast, List.map_drop]
  congr 2
  rw [Nat.min_eq_left (by omega)]
  exact List.take_of_length_le (by rw [List.length_drop, hl]; omega)
/-! plain rows -/
inductive Wd where | fig (n : Fin 10) | enter | two (w : Tw) | sign | swap | roll | put (k : Fin 3) | get (k : Fin 3)
def Wd.l : Wd → List Nat
  | .fig n => [48 + n.val]
  | .enter => [101, 110, 116, 101, 114]
  | .two .plus => [112, 108, 117, 115]
  | .two .minus => [109, 105, 110, 117, 115]
  | .two .times => [116, 105, 109, 101, 115]
  | .sign => [115, 105, 103, 110]
  | .swap => [115, 119, 97, 112]
  | .roll => [114, 111, 108, 108]
  | .put k => [112, 117, 116, 48 + k.val]
  | .get k => [103, 101, 116, 48 + k.val]
def Wd.d (w : Wd) : D := .str (S w.l)
structure S7 where
  x : Int
  y : Int
  z : Int
  t : Int
  b : Fin 3 → Int
def S7.pl (s : S7) : List D := [.int s.x, .int s.y, .int s.z, .int s.t]
def S7.bx (s : S7) : List D := [.int (s.b 0), .int (s.b 1), .int (s.b 2)]
def S7.D (s : S7) : DN.D := .tup (s.pl ++ s.bx)
def Wd.step : Wd → S7 → S7
  | .fig n, s => ⟨n.val, s.x, s.y, s.z, s.b⟩
  | .enter, s => ⟨s.x, s.x, s.y, s.z, s.b⟩
  | .two w, s => ⟨w.op s.y s.x, s.z, s.t, s.t, s.b⟩
  | .sign, s => ⟨-s.x, s.y, s.z, s.t, s.b⟩
  | .swap, s => ⟨s.y, s.x, s.z, s.t, s.b⟩
  | .roll, s => ⟨s.y, s.z, s.t, s.x, s.b⟩
  | .put k, s => ⟨s.x, s.y, s.z, s.t, fun i => if i = k then s.x else s.b i⟩
  | .get k, s => ⟨s.b k, s.x, s.y, s.z, s.b⟩
theorem fin10 (n : Fin 10) : n = 0 ∨ n = 1 ∨ n = 2 ∨ n = 3 ∨ n = 4 ∨ n = 5 ∨ n = 6 ∨ n = 7 ∨ n = 8 ∨ n = 9 := by revert n; decide
theorem fin3 (n : Fin 3) : n = 0 ∨ n = 1 ∨ n = 2 := by revert n; decide
def runW (s : S7) : List Wd → S7
  | [] => s
  | w :: ws => runW (w.step s) ws
def S7.Bd (s : S7) (e : Nat) : Prop := s.x.natAbs < 2 ^ e ∧ s.y.natAbs < 2 ^ e ∧ s.z.natAbs < 2 ^ e ∧ s.t.natAbs < 2 ^ e ∧ ∀ i, (s.b i).natAbs < 2 ^ e
theorem S7.up {s : S7} {e f : Nat} (h : s.Bd e) (hf : e ≤ f) : s.Bd f := by
  have p : 2 ^ e ≤ 2 ^ f := Nat.pow_le_pow_right (by decide) hf
  obtain ⟨a, b, c, d, k⟩ := h
  exact ⟨by omega, by omega, by omega, by omega, fun i => Nat.lt_of_lt_of_le (k i) p⟩
/-! drawn rows and settings -/
def menuW : List Wd := [.fig 0, .fig 1, .fig 2, .fig 3, .fig 7, .enter, .enter, .two .plus, .two .minus, .two .times, .two .times, .two .plus, .two .minus, .sign,
  .swap, .roll, .put 0, .put 1, .put 2, .get 0, .get 1, .get 2, .swap, .fig 9]
theorem pl_list (n m : D) : g__law_plain [.z n, .z m, .u, .u] = t2__law_plain [.z n, .z m, .z (.lst (menuW.map Wd.d)), .u] := by kernel_rfl
theorem x_lplain {n : Int} {m : Int} (h0 : 0 ≤ m) (h1 : m < 100) : ∃ ws : List Wd, (ws.length : Int) ≤ m ∧ d__law_plain [.int n, .int m] = .ok (.tup (ws.map Wd.d)) := by
  have md : modD (.int n) (.int (m + 1)) = some (.int (n % (m + 1))) := mod_p (by omega)
  have q0 : 0 ≤ n % (m + 1) := Int.emod_nonneg _ (by omega)
  have q1 : n % (m + 1) < m + 1 := Int.emod_lt_of_pos _ (by omega)
  generalize n % (m + 1) = k at *
  have q : acons (bop modD (var 0) (bop addD (var 1) (con (.int 1)))) anil [.z (.int n), .z (.int m), .z (.lst (menuW.map Wd.d)), .u] = .ok [.int k] := by simp?! [md]
  have e := rng1_eq q q0 (by omega)
  obtain ⟨ws, l1, l2⟩ := comp_map (f := Wd.d) (i := 3) (e := e1__law_plain) (ρ := [.z (.int n), .z (.int m), .z (.lst (menuW.map Wd.d)), .u]) (rngD 0 k.toNat) (by
    intro d hd
    obtain ⟨j, hj, rfl⟩ := rngD_mem hd
    obtain ⟨dr, d1, d2, d3⟩ := x_drawn (n := n) (k := (j : Int)) (by omega) (by omega)
    have hn : (dr / 4 % 24).toNat < menuW.length := by have : menuW.length = 24 := rfl; omega
    refine ⟨menuW[(dr / 4 % 24).toNat], ?_⟩
    have ix : ixD (.lst (menuW.map Wd.d)) (.int (dr / 4 % 24)) = some (menuW[(dr / 4 % 24).toNat].d) := by
      rw [ix_lm (by rw [List.length_map]; decide), List.getD_eq_getElem?_getD, List.getElem?_map, List.getElem?_eq_getElem hn]
      rfl
    simp?! [e1__law_plain, d1, ix])
  rw [rngD_len] at l1
  refine ⟨ws, by omega, ?_⟩
  have lc := lc_eq (t := yes) (e := e1__law_plain) (i := 3) e (by rw [rngD_len]; omega) l2
  have tp : tupD [.lst (ws.map Wd.d)] = some (.tup (ws.map Wd.d)) := rfl
  rw [v__law_plain, pl_list]
  simp?! [t2__law_plain, lc, tp]
/-! books in plain lists -/
abbrev Ent := L2.Ent
def bkV (es : List Ent) : List (List Key × V) := es.map L2.entB
def bk (es : List Ent) : DN.D := .dT (bkV es)
def getB : List Ent → List Int → Option Int
  | [], _ => none
  | e :: r, k => if e.1 = k then some e.2 else getB r k
def putB : List Ent → List Int → Int → List Ent
  | [], k, n => [(k, n)]
  | e :: r, k, n => if e.1 = k then (k, n) :: r else e :: putB r k n
def keysB (es : List Ent) : List (List Int) := es.map (·.1)
theorem kI_inj : ∀ {a b : List Int}, kI a = kI b → a = b
  | [], [], _ => rfl
  | [], _ :: _, h => by cases h
  | _ :: _, [], h => by cases h
  | x :: a, y :: b, h => by
    have h : Sum.inl x :: kI a = Sum.inl y :: kI b := h
    injection h with h1 h2
    injection h1 with h1
    rw [h1, kI_inj h2]
theorem valV_ent : ∀ (es : List Ent) (k : List Int), valV (bkV es) (kI k) = (getB es k).map V.int
  | [], k => rfl
  | e :: r, k => by
    unfold getB
    by_cases h : e.1 = k
    · rw [if_pos h]
      show (List.find? _ (L2.entB e :: bkV r)).map _ = _
      rw [List.find?_cons_of_pos (by show decide (kI e.1 = kI k) = true; rw [h]; exact decide_eq_true rfl)]
      rfl
    · rw [if_neg h]
      show (List.find? _ (L2.entB e :: bkV r)).map _ = _
      rw [List.find?_cons_of_neg (by show ¬ decide (kI e.1 = kI k) = true; simpa using fun q => h (kI_inj q))]
      exact valV_ent r k
theorem get_mem : ∀ {es : List Ent} {k : List Int}, k ∈ keysB es ↔ (getB es k).isSome
  | [], k => by simp [keysB, getB]
  | e :: r, k => by
    unfold getB
    by_cases h : e.1 = k
    · rw [if_pos h]; simp [keysB, h]
    · rw [if_neg h, ← get_mem]; simp [keysB, Ne.symm h]
theorem map_put : ∀ (es : List Ent) (k : List Int) (n : Int), (keysB es).Nodup → k ∈ keysB es → (bkV es).map (fun kv => if kv.1 = kI k then (kv.1, V.int n) else kv) = bkV (putB es k n)
  | [], _, _, _, h => by cases h
  | e :: r, k, n, nd, h => by
    have nd' : (e.1 :: keysB r).Nodup := nd
    rw [List.nodup_cons] at nd'
    unfold putB
    show (if kI e.1 = kI k then (kI e.1, V.int n) else L2.entB e) :: (bkV r).map _ = _
    by_cases q : e.1 = k
    · subst q
      rw [if_pos rfl, if_pos rfl]
      have : (bkV r).map (fun kv => if kv.1 = kI e.1 then (kv.1, V.int n) else kv) = bkV r := by
        have : ∀ kv ∈ bkV r, (fun kv : List Key × V => if kv.1 = kI e.1 then (kv.1, V.int n) else kv) kv = kv := fun kv hkv => by
          obtain ⟨e', he', rfl⟩ := List.mem_map.mp hkv
          show (if kI e'.1 = kI e.1 then _ else _) = _
          rw [if_neg fun z => nd'.1 (by rw [← kI_inj z]; exact List.mem_map.mpr ⟨e', he', rfl⟩)]
        rw [List.map_congr_left this, List.map_id']
      rw [this]
      rfl
    · rw [if_neg q, if_neg fun z => q (kI_inj z)]
      rcases List.mem_cons.mp h with h | h
      · exact absurd h.symm q
      · rw [map_put r k n nd'.2 h]
        rfl
theorem put_new : ∀ {es : List Ent} {k : List Int} {n : Int}, k ∉ keysB es → putB es k n = es ++ [(k, n)]
  | [], _, _, _ => rfl
  | e :: r, k, n, h => by
    unfold putB
    rw [if_neg fun z => h (by rw [← z]; exact List.mem_cons_self ..), put_new fun z => h (List.mem_cons_of_mem _ z)]
    rfl
theorem putK_ent {es : List Ent} {k : List Int} {n : Int} (nd : (keysB es).Nodup) : putK (bkV es) (kI k) (.int n) = bkV (putB es k n) := by
  unfold putK
  rw [valV_any, valV_ent, Option.isSome_map]
  by_cases h : k ∈ keysB es
  · rw [if_pos (get_mem.mp h)]
    exact map_put es k n nd h
  · rw [if_neg (fun z => h (get_mem.mpr z)), put_new h]
    unfold bkV
    rw [List.map_append]
    rfl
theorem keys_put : ∀ {es : List Ent} {k : List Int} {n : Int}, keysB (putB es k n) = if k ∈ keysB es then keysB es else keysB es ++ [k]
  | [], _, _ => rfl
  | e :: r, k, n => by
    unfold putB
    by_cases h : e.1 = k
    · rw [if_pos h, if_pos (by rw [← h]; exact List.mem_cons_self ..)]
      show k :: keysB r = e.1 :: keysB r
      rw [h]
    · rw [if_neg h]
      show e.1 :: keysB (putB r k n) = _
      rw [keys_put]
      have : k ∈ keysB (e :: r) ↔ k ∈ keysB r := by simp [keysB, Ne.symm h]
      by_cases q : k ∈ keysB r
      · rw [if_pos q, if_pos (this.mpr q)]; rfl
      · rw [if_neg q, if_neg (fun z => q (this.mp z))]; rfl
theorem nd_put {es : List Ent} {k : List Int} {n : Int} (nd : (keysB es).Nodup) : (keysB (putB es k n)).Nodup := by
  rw [keys_put]
  split
  · exact nd
  · rename_i h
    rw [List.nodup_append]
    exact ⟨nd, by simp, fun a ha b hb => by
      rw [List.mem_singleton.mp hb]
      exact fun z => h (by rw [← z]; exact ha)⟩
theorem mem_getB {es : List Ent} (nd : (keysB es).Nodup) {e : Ent} (h : e ∈ es) : getB es e.1 = some e.2 := by
  induction es with
  | nil => cases h
  | cons d r ih =>
    have nd : (d.1 :: keysB r).Nodup := nd
    rw [List.nodup_cons] at nd
    unfold getB
    rcases List.mem_cons.mp h with rfl | h
    · rw [if_pos rfl]
    · rw [if_neg fun z => nd.1 (by rw [z]; exact List.mem_map.mpr ⟨e, h, rfl⟩)]
      exact ih nd.2 h
/-! ### evaluating -/
section
variable {ρ : Rho}
theorem keysD_bk : ∀ es : List Ent, keysD (bkV es) = some (es.map fun e => DN.D.pw e.1)
  | [] => rfl
  | e :: r => by
    show (intsOf (kI e.1)).bind _ = _
    rw [intsOf_kI]
    show (keysD (bkV r)).map _ = _
    rw [keysD_bk r]
    rfl
theorem itemsB_ok {f : Rho → Res DN.D} {es : List Ent} (h : f ρ = .ok (bk es)) : itemsB f ρ = .ok (es.map fun e => DN.D.pw e.1) := by
  unfold itemsB
  rw [h]
  show ofO (keysD (bkV es)) = _
  rw [keysD_bk]
  rfl
theorem getT_bk {es : List Ent} {k : List Int} {n : Int} (h : getB es k = some n) : getT (bk es) (.pw k) = some (.int n) := by
  show (valV (bkV es) (kI k)).bind vInt = _
  rw [valV_ent, h]
  rfl
theorem sputT_ok {i : Nat} {fk fe : Rho → Res DN.D} {es : List Ent} {k : List Int} {n : Int} (h1 : fe ρ = .ok (.int n)) (h2 : ρ[i]? = some (.o (bk es))) (h3 : fk ρ = .ok (.pw k)) (nd : (keysB es).Nodup) (hl : es.length < 16777216) : sputT i fk fe ρ = .nx (ρ.set i (.o (bk (putB es k n)))) := by
  have e1 : ownT i ρ = .ok (bkV es) := by
    unfold ownT
    rw [h2]
    rfl
  unfold sputT
  rw [h1]
  show bindS (ownT i ρ) ρ _ = _
  rw [e1]
  show bindS (fk ρ) ρ _ = _
  rw [h3]
  show (if (bkV es).length < sizeLine then _ else _) = _
  rw [if_pos (by rw [sizeLine_eq]; unfold bkV; rw [List.length_map]; exact hl), putK_ent nd]
  rfl
theorem getO_ok {i : Nat} {fk fd : Rho → Res DN.D} {es : List Ent} {k : List Int} {n : Int} (h2 : ρ[i]? = some (.o (bk es))) (h3 : fk ρ = .ok (.pw k)) (h4 : fd ρ = .ok (.int n)) : getO i fk fd ρ = .ok (.int ((getB es k).getD n)) := by
  have e1 : ownT i ρ = .ok (bkV es) := by
    unfold ownT
    rw [h2]
    rfl
  unfold getO
  rw [e1]
  show (fk ρ).bind _ = _
  rw [h3]
  show (fd ρ).bind _ = _
  rw [h4]
  show (match valV (bkV es) (kI k) with
    | some v => ofO (vInt v)
    | none => Res.ok (DN.D.int n)) = _
  rw [valV_ent]
  cases getB es k <;> rfl
end
/-! tidy, opposite, added, taken, multiplied, constant -/
def tidyB (es : List Ent) : List Ent := es.filter fun e => decide (e.2 ≠ 0)
abbrev tdR (es0 es : List Ent) (w : En) : Rho := [.z (bk es0), .o (bk es), w]
theorem td_step {es0 acc : List Ent} {k : List Int} {n : Int} (h : getB es0 k = some n) (nd : (keysB acc).Nodup) (hl : acc.length < 16777216) :
    b1_tidy (tdR es0 acc (.z (.pw k))) = .nx (tdR es0 (if n = 0 then acc else putB acc k n) (.z (.pw k))) := by
  have g : bop getT (var 0) (var 2) (tdR es0 acc (.z (.pw k))) = .ok (.int n) := by
    show ofO (getT (bk es0) (.pw k)) = _
    rw [getT_bk h]; rfl
  unfold b1_tidy
  by_cases h0 : n = 0
  · subst h0
    have t : tst (bop neD (bop getT (var 0) (var 2)) (con (.int 0))) (tdR es0 acc (.z (.pw k))) = .ok false := by
      simp?! [getT_bk h]
      rfl
    rw [sif_def, t, if_pos rfl]
    rfl
  · have t : tst (bop neD (bop getT (var 0) (var 2)) (con (.int 0))) (tdR es0 acc (.z (.pw k))) = .ok true := by
      simp?! [getT_bk h]
      rw [show (n == 0) = false by simpa using h0]
      rfl
    rw [sif_def, t, if_neg h0, ifR_t, sputT_ok g rfl rfl nd hl]
    rfl

theorem put_len {es : List Ent} {k : List Int} {n : Int} : (putB es k n).length ≤ es.length + 1 := by
  have h := congrArg List.length (keys_put (es := es) (k := k) (n := n))
  unfold keysB at h
  rw [List.length_map] at h
  rw [h]
  split
  · rw [List.length_map]; omega
  · rw [List.length_append, List.length_map]; exact Nat.le_refl _
theorem nd_tidy {es : List Ent} (nd : (keysB es).Nodup) : (keysB (tidyB es)).Nodup := by
  unfold keysB tidyB
  exact List.Nodup.sublist (List.Sublist.map _ List.filter_sublist) nd
/-- the loop of tidy, from acc on -/
theorem td_loop {es0 : List Ent} : ∀ (l : List Ent) (acc : List Ent) (w : En), (∀ e ∈ l, getB es0 e.1 = some e.2) → (keysB (acc ++ l)).Nodup → (acc ++ l).length < 16777216 →
    ∃ w', loopD (gn 2) b1_tidy (l.map fun e => DN.D.pw e.1) (tdR es0 acc w) = .nx (tdR es0 (acc ++ tidyB l) w')
  | [], acc, w, _, _, _ => ⟨w, by rw [show tidyB [] = [] from rfl, List.append_nil]; exact loop_nil⟩
  | e :: l, acc, w, h, nd, hl => by
    have nda : (keysB acc).Nodup := by
      unfold keysB at nd ⊢
      rw [List.map_append] at nd
      exact (List.nodup_append.mp nd).1
    have hla : acc.length < 16777216 := by rw [List.length_append] at hl; omega
    have hs := td_step (es0 := es0) (acc := acc) (h e (List.mem_cons_self ..)) nda hla
    have hk : e.1 ∉ keysB acc := by
      unfold keysB at nd ⊢
      rw [List.map_append, List.nodup_append] at nd
      exact fun z => nd.2.2 _ z _ (List.mem_cons_self ..) rfl
    by_cases h0 : e.2 = 0
    · rw [if_pos h0] at hs
      have sub : (keysB (acc ++ l)).Nodup := by
        unfold keysB at nd ⊢
        exact List.Nodup.sublist (List.Sublist.map _ (List.Sublist.append_left (List.sublist_cons_self _ _) _)) nd
      obtain ⟨w', ih⟩ := td_loop (es0 := es0) l acc (.z (.pw e.1)) (fun x hx => h x (List.mem_cons_of_mem _ hx)) sub (by rw [List.length_append, List.length_cons] at hl; rw [List.length_append]; omega)
      refine ⟨w', ?_⟩
      rw [List.map_cons, loop_cons (ρ1 := tdR es0 acc (.z (.pw e.1))) rfl hs, ih]
      rw [show tidyB (e :: l) = tidyB l from List.filter_cons_of_neg (by simpa using h0)]
    · rw [if_neg h0, put_new hk] at hs
      have ea : acc ++ [(e.1, e.2)] ++ l = acc ++ e :: l := by rw [List.append_assoc]; rfl
      obtain ⟨w', ih⟩ := td_loop (es0 := es0) l (acc ++ [(e.1, e.2)]) (.z (.pw e.1)) (fun x hx => h x (List.mem_cons_of_mem _ hx)) (by rw [ea]; exact nd) (by rw [ea]; exact hl)
      refine ⟨w', ?_⟩
      rw [List.map_cons, loop_cons (ρ1 := tdR es0 acc (.z (.pw e.1))) rfl hs, ih]
      rw [show tidyB (e :: l) = e :: tidyB l from List.filter_cons_of_pos (by simpa using h0), List.append_assoc]
      rfl
theorem x_tidyB {es : List Ent} (nd : (keysB es).Nodup) (hl : es.length < 16777216) : d_tidy [bk es] = .ok (bk (tidyB es)) := by
  obtain ⟨w', lp⟩ := td_loop (es0 := es) es [] .u (fun e he => mem_getB nd he) nd hl
  have it := itemsB_ok (f := var 0) (es := es) (ρ := tdR es [] .u) rfl
  have k : d_tidy [bk es] = finR (t1_tidy (tdR es [] .u)) := by rw [v_tidy]; rfl
  rw [k]
  unfold t1_tidy
  rw [sseq_def, sfor_def, it, forR_ok, lp, seqR_nx]
  rfl
/-! opposite, added, taken, multiplied, constant on plain books -/
def oppB (es : List Ent) : List Ent := es.map fun e => (e.1, -e.2)
def addS (acc : List Ent) (e : Ent) : List Ent := putB acc e.1 ((getB acc e.1).getD 0 + e.2)
def addI (a b : List Ent) : List Ent := b.foldl addS a
def addB (a b : List Ent) : List Ent := tidyB (addI a b)
def addK (a b : List Int) : List Int := (a.zip b).map fun p => p.1 + p.2
def prodS (l : Ent) (b : List Ent) (acc : List Ent) : List Ent := b.foldl (fun acc r => addS acc (addK l.1 r.1, l.2 * r.2)) acc
def mulI (a b : List Ent) : List Ent := a.foldl (fun acc l => prodS l b acc) []
def mulB (a b : List Ent) : List Ent := tidyB (mulI a b)
theorem keys_app (a b : List Ent) : keysB (a ++ b) = keysB a ++ keysB b := List.map_append
theorem op_loop {es0 : List Ent} : ∀ (l : List Ent) (acc : List Ent) (w : En), (∀ e ∈ l, getB es0 e.1 = some e.2) → (keysB (acc ++ l)).Nodup → (acc ++ l).length < 16777216 →
    ∃ w', loopD (gn 2) b1_opposite_v2 (l.map fun e => DN.D.pw e.1) (tdR es0 acc w) = .nx (tdR es0 (acc ++ oppB l) w')
  | [], acc, w, _, _, _ => ⟨w, by rw [show oppB [] = [] from rfl, List.append_nil]; exact loop_nil⟩
  | e :: l, acc, w, h, nd, hl => by
    have hg := h e (List.mem_cons_self ..)
    have nd2 := nd
    rw [keys_app, List.nodup_append] at nd2
    have hk : e.1 ∉ keysB acc := fun z => nd2.2.2 _ z _ (List.mem_cons_self ..) rfl
    have g : una negD (bop getT (var 0) (var 2)) (tdR es0 acc (.z (.pw e.1))) = .ok (.int (-e.2)) := by
      simp?! [getT_bk hg]
    have hs : b1_opposite_v2 (tdR es0 acc (.z (.pw e.1))) = .nx (tdR es0 (acc ++ [(e.1, -e.2)]) (.z (.pw e.1))) := by
      unfold b1_opposite_v2
      rw [sputT_ok g rfl rfl nd2.1 (by rw [List.length_append] at hl; omega), put_new hk]
      rfl
    have ke : keysB (acc ++ [(e.1, -e.2)] ++ l) = keysB (acc ++ e :: l) := by
      rw [keys_app, keys_app, keys_app, List.append_assoc]
      rfl
    obtain ⟨w', ih⟩ := op_loop (es0 := es0) l (acc ++ [(e.1, -e.2)]) (.z (.pw e.1)) (fun x hx => h x (List.mem_cons_of_mem _ hx)) (by rw [ke]; exact nd) (by simp only [List.length_append, List.length_cons, List.length_nil] at hl ⊢; omega)
    refine ⟨w', ?_⟩
    rw [List.map_cons, loop_cons (ρ1 := tdR es0 acc (.z (.pw e.1))) rfl hs, ih, List.append_assoc]
    rfl
theorem x_oppB {es : List Ent} (nd : (keysB es).Nodup) (hl : es.length < 16777216) : d_opposite_v2 [bk es] = .ok (bk (oppB es)) := by
  obtain ⟨w', lp⟩ := op_loop (es0 := es) es [] .u (fun e he => mem_getB nd he) nd hl
  have it := itemsB_ok (f := var 0) (es := es) (ρ := tdR es [] .u) rfl
  have k : d_opposite_v2 [bk es] = finR (t1_opposite_v2 (tdR es [] .u)) := by rw [v_opposite_v2]; rfl
  rw [k]
  unfold t1_opposite_v2
  rw [sseq_def, sfor_def, it, forR_ok, lp, seqR_nx]
  rfl
theorem keysI_bk : ∀ es : List Ent, keysI (bkV es) = some (keysB es)
  | [] => rfl
  | e :: r => by
    show (intsOf (kI e.1)).bind _ = _
    rw [intsOf_kI]
    show (keysI (bkV r)).map _ = _
    rw [keysI_bk r]
    rfl
/-- the keys hash apart -/
def Apart (es : List Ent) : Prop := ((keysB es).map L2.keyHashI).Nodup
theorem apart_bk {es : List Ent} (h : Apart es) : apart (bkV es) = true := by
  unfold apart
  rw [keysI_bk]
  exact decide_eq_true h
theorem adds_len {acc : List Ent} {e : Ent} : (addS acc e).length ≤ acc.length + 1 := put_len
theorem nd_adds {acc : List Ent} {e : Ent} (nd : (keysB acc).Nodup) : (keysB (addS acc e)).Nodup := nd_put nd
theorem nd_addI : ∀ {b a : List Ent}, (keysB a).Nodup → (keysB (addI a b)).Nodup
  | [], _, h => h
  | e :: b, a, h => nd_addI (b := b) (a := addS a e) (nd_adds h)
theorem len_addI : ∀ {b a : List Ent}, (addI a b).length ≤ a.length + b.length
  | [], _ => Nat.le_refl _
  | e :: b, a => by
    have h1 := len_addI (b := b) (a := addS a e)
    have h2 := adds_len (acc := a) (e := e)
    show (addI (addS a e) b).length ≤ _
    rw [List.length_cons]
    omega
abbrev adR (d1 : En) (es0 es : List Ent) (w : En) : Rho := [d1, .z (bk es0), .o (bk es), w]
theorem ad_loop {d1 : En} {es0 : List Ent} : ∀ (l : List Ent) (acc : List Ent) (w : En), (∀ e ∈ l, getB es0 e.1 = some e.2) → (keysB acc).Nodup → acc.length + l.length < 16777216 →
    ∃ w', loopD (gn 3) b1_added (l.map fun e => DN.D.pw e.1) (adR d1 es0 acc w) = .nx (adR d1 es0 (addI acc l) w')
  | [], acc, w, _, _, _ => ⟨w, loop_nil⟩
  | e :: l, acc, w, h, nd, hl => by
    have hg := h e (List.mem_cons_self ..)
    have ho := getO_ok (i := 2) (fk := var 3) (fd := con (.int 0)) (es := acc) (k := e.1) (n := 0) (ρ := adR d1 es0 acc (.z (.pw e.1))) rfl rfl rfl
    have g : bop addD (getO 2 (var 3) (con (.int 0))) (bop getT (var 1) (var 3)) (adR d1 es0 acc (.z (.pw e.1))) = .ok (.int ((getB acc e.1).getD 0 + e.2)) := by
      simp?! [getT_bk hg, ho]
    have hs : b1_added (adR d1 es0 acc (.z (.pw e.1))) = .nx (adR d1 es0 (addS acc e) (.z (.pw e.1))) := by
      unfold b1_added
      rw [sputT_ok g rfl rfl nd (by omega)]
      rfl
    have h2 := adds_len (acc := acc) (e := e)
    obtain ⟨w', ih⟩ := ad_loop (d1 := d1) (es0 := es0) l (addS acc e) (.z (.pw e.1)) (fun x hx => h x (List.mem_cons_of_mem _ hx)) (nd_adds nd) (by rw [List.length_cons] at hl; omega)
    refine ⟨w', ?_⟩
    rw [List.map_cons, loop_cons (ρ1 := adR d1 es0 acc (.z (.pw e.1))) rfl hs, ih]
    rfl
theorem scopyT_ok {i : Nat} {f : Rho → Res (List DN.D)} {ρ : Rho} {es : List Ent} (h : f ρ = .ok [bk es]) (ha : Apart es) : scopyT i f ρ = .nx (ρ.set i (.o (bk es))) := by
  unfold scopyT
  rw [h]
  show (if apart (bkV es) = true then _ else _) = _
  rw [if_pos (apart_bk ha)]
  rfl
theorem x_addB {a b : List Ent} (na : (keysB a).Nodup) (nb : (keysB b).Nodup) (hl : a.length + b.length < 16777216) (ha : Apart a) : d_added [bk a, bk b] = .ok (bk (addB a b)) := by
  obtain ⟨w', lp⟩ := ad_loop (d1 := .z (bk a)) (es0 := b) b a .u (fun e he => mem_getB nb he) na hl
  have it := itemsB_ok (f := var 1) (es := b) (ρ := adR (.z (bk a)) b a .u) rfl
  have cp : scopyT 2 (acons (var 0) anil) [.z (bk a), .z (bk b), .u, .u] = .nx (adR (.z (bk a)) b a .u) := scopyT_ok rfl ha
  have l2 := len_addI (b := b) (a := a)
  have td := x_tidyB (es := addI a b) (nd_addI na) (by omega)
  rw [v_added]
  unfold g_added
  rw [sseq_def, cp, seqR_nx]
  unfold t1_added
  rw [sseq_def, sfor_def, it, forR_ok, lp, seqR_nx]
  have cd : callD 1 d_tidy (acons (var 2) anil) (frzT 2 (adR (.z (bk a)) b (addI a b) w')) = d_tidy [bk (addI a b)] := rfl
  show finR (sret (callD 1 d_tidy (acons (var 2) anil)) (frzT 2 (adR (.z (bk a)) b (addI a b) w'))) = _
  rw [sret_def, cd, td]
  rfl

/-! taken, constant, multiplied -/
theorem callD_ok {n : Nat} {den : List D → Res D} {f : Rho → Res (List D)} {ρ : Rho} {ds : List D} (h : f ρ = .ok ds) (hl : ds.length = n) : callD n den f ρ = den ds := by
  unfold callD
  rw [h]
  show (if ds.length = n then den ds else .bad) = _
  rw [if_pos hl]
theorem compB_t {g : Tg} {t : Rho → Res Bool} {e : Rho → Res D} {ρ ρ1 : Rho} {d z : D} {ds ys : List D} (h1 : g ρ d = some ρ1) (h2 : t ρ1 = .ok true) (h3 : e ρ1 = .ok z) (h4 : compD g t e ρ ds = .ok ys) : compD g t e ρ (d :: ds) = .ok (z :: ys) := by
  unfold compD
  rw [h1]
  simp only [h2, h3, h4, if_true]
  rfl
theorem keys_opp (es : List Ent) : keysB (oppB es) = keysB es := by
  unfold keysB oppB
  rw [List.map_map]
  rfl
def takB (a b : List Ent) : List Ent := addB a (oppB b)
theorem x_takB {a b : List Ent} (na : (keysB a).Nodup) (nb : (keysB b).Nodup) (hl : a.length + b.length < 16777216) (ha : Apart a) : d_taken_v2 [bk a, bk b] = .ok (bk (takB a b)) := by
  have o := x_oppB nb (by omega)
  have s := x_addB (b := oppB b) na (by rw [keys_opp]; exact nb) (by unfold oppB; rw [List.length_map]; exact hl) ha
  have cd : callD 1 d_opposite_v2 (acons (var 1) anil) [.z (bk a), .z (bk b)] = d_opposite_v2 [bk b] := rfl
  have ca : acons (var 0) (acons (callD 1 d_opposite_v2 (acons (var 1) anil)) anil) [.z (bk a), .z (bk b)] = .ok [bk a, bk (oppB b)] := by
    rw [acons_def, acons_def, cd, o]
    rfl
  have c2 : callD 2 d_added (acons (var 0) (acons (callD 1 d_opposite_v2 (acons (var 1) anil)) anil)) [.z (bk a), .z (bk b)] = .ok (bk (takB a b)) := by
    exact (callD_ok ca rfl).trans s
  rw [v_taken_v2]
  unfold g_taken_v2
  rw [sret_def, c2]
  rfl
def conB (n : Nat) : List Ent := tidyB [([0, 0, 0, 0, 0, 0, 0], (n : Int))]
theorem x_conB (n : Fin 10) : d_constant [.str (S [48 + n.val])] = .ok (bk (conB n.val)) := by
  have t := x_tidyB (es := [([0, 0, 0, 0, 0, 0, 0], (n.val : Int))]) (by unfold keysB; simp) (by show 1 < 16777216; omega)
  have d : dispT (bop repP (mkW (acons (con (.int 0)) anil)) (con (.int 7))) (cal intD (acons (var 0) anil)) [.z (.str (S [48 + n.val]))] = .ok (bk [([0, 0, 0, 0, 0, 0, 0], (n.val : Int))]) := by
    revert n
    intro n t
    match n with
    | 0 => kernel_rfl
    | 1 => kernel_rfl
    | 2 => kernel_rfl
    | 3 => kernel_rfl
    | 4 => kernel_rfl
    | 5 => kernel_rfl
    | 6 => kernel_rfl
    | 7 => kernel_rfl
    | 8 => kernel_rfl
    | 9 => kernel_rfl
  have c : callD 1 d_tidy (acons (dispT (bop repP (mkW (acons (con (.int 0)) anil)) (con (.int 7))) (cal intD (acons (var 0) anil))) anil) [.z (.str (S [48 + n.val]))] = .ok (bk (conB n.val)) := by
    have ac : acons (dispT (bop repP (mkW (acons (con (.int 0)) anil)) (con (.int 7))) (cal intD (acons (var 0) anil))) anil [.z (.str (S [48 + n.val]))] = .ok [bk [([0, 0, 0, 0, 0, 0, 0], (n.val : Int))]] := by
      rw [acons_def, d]
      rfl
    exact (callD_ok ac rfl).trans t
  rw [v_constant]
  unfold g_constant
  rw [sret_def, c]
  rfl
/-! multiplied -/
theorem lcG_eqB {f : Rho → Res (List D)} {vs : List Nat} {g : Tg} {t : Rho → Res Bool} {e : Rho → Res D} {ρ : Rho} {ds ys : List D} (h : f ρ = .ok ds) (hl : ds.length ≤ 1000000) (h2 : compD g t e (wipeR ρ vs) ds = .ok ys) : lcG f vs g t e ρ = .ok (.lst ys) := by
  unfold lcG
  rw [h]
  show (if ds.length < sizeLine then (compD g t e (wipeR ρ vs) ds).bind fun ys => .ok (D.lst ys) else .bad) = _
  rw [if_pos (by rw [sizeLine_eq]; omega), h2]
  rfl
abbrev muR (a b acc : List Ent) (l r p x y : En) : Rho := [.z (bk a), .z (bk b), .o (bk acc), l, r, p, x, y]
theorem comp_addK {a b acc : List Ent} {l r p : En} : ∀ (k j : List Int), compD (gt 2 (gsc (gn 6) (gsc (gn 7) gsn))) yes e1_multiplied (muR a b acc l r p .u .u) (prs (k.map DN.D.int) (j.map DN.D.int)) = .ok ((addK k j).map DN.D.int)
  | [], j => rfl
  | x :: k, [] => rfl
  | x :: k, y :: j => compB_t (show gt 2 (gsc (gn 6) (gsc (gn 7) gsn)) (muR a b acc l r p .u .u) (.tup [.int x, .int y]) = some (muR a b acc l r p (.z (.int x)) (.z (.int y))) from rfl) rfl rfl (comp_addK k j)
theorem prs_len : ∀ (k j : List Int), (prs (k.map DN.D.int) (j.map DN.D.int)).length ≤ k.length
  | [], j => Nat.le_refl _
  | x :: k, [] => Nat.zero_le _
  | x :: k, y :: j => Nat.succ_le_succ (prs_len k j)
theorem intsD_map : ∀ ks : List Int, DN.intsD (ks.map DN.D.int) = some ks
  | [] => rfl
  | k :: ks => by
    show (DN.intsD (ks.map DN.D.int)).map (k :: ·) = _
    rw [intsD_map ks]; rfl
theorem mu_step {a b acc : List Ent} {e f : Ent} {p x y : En} (ha : getB a e.1 = some e.2) (hb : getB b f.1 = some f.2) (hm : mulD (.int e.2) (.int f.2) = some (.int (e.2 * f.2))) (nd : (keysB acc).Nodup) (hl : acc.length < 16777216) (h7 : e.1.length ≤ 1000) :
    b2_multiplied (muR a b acc (.z (.pw e.1)) (.z (.pw f.1)) p x y) = .nx (muR a b (addS acc (addK e.1 f.1, e.2 * f.2)) (.z (.pw e.1)) (.z (.pw f.1)) (.z (.pw (addK e.1 f.1))) x y) := by
  have it : zipI (offA (acons (var 3) (acons (var 4) anil))) (muR a b acc (.z (.pw e.1)) (.z (.pw f.1)) p x y) = .ok (prs (e.1.map DN.D.int) (f.1.map DN.D.int)) := rfl
  have lc := lcG_eqB (vs := [6, 7]) (g := gt 2 (gsc (gn 6) (gsc (gn 7) gsn))) (t := yes) (e := e1_multiplied) it (by have := prs_len e.1 f.1; omega) (comp_addK e.1 f.1)
  have tw : cal tupW (acons (lcG (zipI (offA (acons (var 3) (acons (var 4) anil)))) [6, 7] (gt 2 (gsc (gn 6) (gsc (gn 7) gsn))) yes e1_multiplied) anil) (muR a b acc (.z (.pw e.1)) (.z (.pw f.1)) p x y) = .ok (.pw (addK e.1 f.1)) := by
    unfold cal
    rw [acons_def, lc]
    show ofO ((DN.intsD ((addK e.1 f.1).map DN.D.int)).map _) = _
    rw [intsD_map]
    rfl
  have ho := getO_ok (i := 2) (fk := var 5) (fd := con (.int 0)) (es := acc) (k := addK e.1 f.1) (n := 0) (ρ := muR a b acc (.z (.pw e.1)) (.z (.pw f.1)) (.z (.pw (addK e.1 f.1))) x y) rfl rfl rfl
  have g : bop addD (getO 2 (var 5) (con (.int 0))) (bop mulD (bop getT (var 0) (var 3)) (bop getT (var 1) (var 4))) (muR a b acc (.z (.pw e.1)) (.z (.pw f.1)) (.z (.pw (addK e.1 f.1))) x y) = .ok (.int ((getB acc (addK e.1 f.1)).getD 0 + e.2 * f.2)) := by
    simp?! [getT_bk ha, getT_bk hb, ho, hm]
  unfold b2_multiplied
  rw [sseq_def, sasg_def, tw, asgR_n, seqR_nx]
  show sputT 2 _ _ (muR a b acc (.z (.pw e.1)) (.z (.pw f.1)) (.z (.pw (addK e.1 f.1))) x y) = _
  rw [sputT_ok g rfl rfl nd hl]
  rfl
/-! the product's loops -/
structure Small (P : List Int → Prop) (acc : List Ent) : Prop where
  nd : (keysB acc).Nodup
  all : ∀ k ∈ keysB acc, P k
def Caps (P : List Int → Prop) : Prop := ∀ acc, Small P acc → acc.length < 16777216
theorem small_adds {P : List Int → Prop} {acc : List Ent} {e : Ent} (h : Small P acc) (he : P e.1) : Small P (addS acc e) := by
  refine ⟨nd_adds h.nd, fun k hk => ?_⟩
  unfold addS at hk
  rw [keys_put] at hk
  split at hk
  · exact h.all k hk
  · rcases List.mem_append.mp hk with hk | hk
    · exact h.all k hk
    · rw [List.mem_singleton.mp hk]; exact he
theorem small_prod {P : List Int → Prop} {l : Ent} : ∀ {b acc : List Ent}, Small P acc → (∀ r ∈ b, P (addK l.1 r.1)) → Small P (prodS l b acc)
  | [], _, h, _ => h
  | r :: b, acc, h, hp => small_prod (b := b) (acc := addS acc (addK l.1 r.1, l.2 * r.2)) (small_adds h (hp r (List.mem_cons_self ..))) fun x hx => hp x (List.mem_cons_of_mem _ hx)
theorem mu_in {P : List Int → Prop} (C : Caps P) {a b : List Ent} {e : Ent} (ha : getB a e.1 = some e.2) (h7 : e.1.length ≤ 1000) : ∀ (l acc : List Ent) (r p x y : En), (∀ f ∈ l, getB b f.1 = some f.2) → (∀ f ∈ l, mulD (.int e.2) (.int f.2) = some (.int (e.2 * f.2))) → Small P acc → (∀ f ∈ l, P (addK e.1 f.1)) →
    ∃ r' p', loopD (gn 4) b2_multiplied (l.map fun f => DN.D.pw f.1) (muR a b acc (.z (.pw e.1)) r p x y) = .nx (muR a b (prodS e l acc) (.z (.pw e.1)) r' p' x y)
  | [], acc, r, p, x, y, _, _, _, _ => ⟨r, p, loop_nil⟩
  | f :: l, acc, r, p, x, y, hb, hm, hs, hp => by
    have st := mu_step (a := a) (b := b) (acc := acc) (e := e) (f := f) (p := p) (x := x) (y := y) ha (hb f (List.mem_cons_self ..)) (hm f (List.mem_cons_self ..)) hs.nd (C acc hs) h7
    obtain ⟨r', p', ih⟩ := mu_in C ha h7 l (addS acc (addK e.1 f.1, e.2 * f.2)) (.z (.pw f.1)) (.z (.pw (addK e.1 f.1))) x y (fun z hz => hb z (List.mem_cons_of_mem _ hz)) (fun z hz => hm z (List.mem_cons_of_mem _ hz)) (small_adds hs (hp f (List.mem_cons_self ..))) (fun z hz => hp z (List.mem_cons_of_mem _ hz))
    refine ⟨r', p', ?_⟩
    rw [List.map_cons, loop_cons (ρ1 := muR a b acc (.z (.pw e.1)) (.z (.pw f.1)) p x y) rfl st, ih]
    rfl
theorem mu_out {P : List Int → Prop} (C : Caps P) {a b : List Ent} (nb : (keysB b).Nodup) : ∀ (l acc : List Ent) (w r p x y : En), (∀ e ∈ l, getB a e.1 = some e.2) → (∀ e ∈ l, e.1.length ≤ 1000) → (∀ e ∈ l, ∀ f ∈ b, mulD (.int e.2) (.int f.2) = some (.int (e.2 * f.2))) → Small P acc → (∀ e ∈ l, ∀ f ∈ b, P (addK e.1 f.1)) →
    ∃ w' r' p', loopD (gn 3) b3_multiplied (l.map fun e => DN.D.pw e.1) (muR a b acc w r p x y) = .nx (muR a b (l.foldl (fun acc e => prodS e b acc) acc) w' r' p' x y)
  | [], acc, w, r, p, x, y, _, _, _, _, _ => ⟨w, r, p, loop_nil⟩
  | e :: l, acc, w, r, p, x, y, ha, h7, hm, hs, hp => by
    obtain ⟨r1, p1, st⟩ := mu_in C (a := a) (b := b) (ha e (List.mem_cons_self ..)) (h7 e (List.mem_cons_self ..)) b acc r p x y (fun f hf => mem_getB nb hf) (hm e (List.mem_cons_self ..)) hs (hp e (List.mem_cons_self ..))
    have it := itemsB_ok (f := var 1) (es := b) (ρ := muR a b acc (.z (.pw e.1)) r p x y) rfl
    have s3 : b3_multiplied (muR a b acc (.z (.pw e.1)) r p x y) = .nx (muR a b (prodS e b acc) (.z (.pw e.1)) r1 p1 x y) := by
      unfold b3_multiplied
      rw [sfor_def, it, forR_ok, st]
    obtain ⟨w', r', p', ih⟩ := mu_out C nb l (prodS e b acc) (.z (.pw e.1)) r1 p1 x y (fun z hz => ha z (List.mem_cons_of_mem _ hz)) (fun z hz => h7 z (List.mem_cons_of_mem _ hz)) (fun z hz => hm z (List.mem_cons_of_mem _ hz)) (small_prod hs (hp e (List.mem_cons_self ..))) (fun z hz => hp z (List.mem_cons_of_mem _ hz))
    refine ⟨w', r', p', ?_⟩
    rw [List.map_cons, loop_cons (ρ1 := muR a b acc (.z (.pw e.1)) r p x y) rfl s3, ih]
    rfl
theorem small_mulI {P : List Int → Prop} {b : List Ent} : ∀ {a acc : List Ent}, Small P acc → (∀ e ∈ a, ∀ f ∈ b, P (addK e.1 f.1)) → Small P (a.foldl (fun acc e => prodS e b acc) acc)
  | [], _, h, _ => h
  | e :: a, acc, h, hp => small_mulI (a := a) (acc := prodS e b acc) (small_prod h (hp e (List.mem_cons_self ..))) fun x hx => hp x (List.mem_cons_of_mem _ hx)
theorem small_nil {P : List Int → Prop} : Small P [] := ⟨List.nodup_nil, fun k h => nomatch h⟩
theorem x_mulB {P : List Int → Prop} (C : Caps P) {a b : List Ent} (na : (keysB a).Nodup) (nb : (keysB b).Nodup) (h7 : ∀ e ∈ a, e.1.length ≤ 1000) (hm : ∀ e ∈ a, ∀ f ∈ b, mulD (.int e.2) (.int f.2) = some (.int (e.2 * f.2))) (hp : ∀ e ∈ a, ∀ f ∈ b, P (addK e.1 f.1)) :
    d_multiplied [bk a, bk b] = .ok (bk (mulB a b)) := by
  obtain ⟨w', r', p', lp⟩ := mu_out C (a := a) nb a [] .u .u .u .u .u (fun e he => mem_getB na he) h7 hm small_nil hp
  have it := itemsB_ok (f := var 0) (es := a) (ρ := muR a b [] .u .u .u .u .u) rfl
  have sm : Small P (mulI a b) := small_mulI small_nil hp
  have td := x_tidyB sm.nd (C _ sm)
  have cp : sownT 2 [.z (bk a), .z (bk b), .u, .u, .u, .u, .u, .u] = .nx (muR a b [] .u .u .u .u .u) := rfl
  rw [v_multiplied]
  unfold g_multiplied
  rw [sseq_def, cp, seqR_nx]
  unfold t1_multiplied
  rw [sseq_def, sfor_def, it, forR_ok, lp, seqR_nx]
  have cd : callD 1 d_tidy (acons (var 2) anil) (frzT 2 (muR a b (mulI a b) w' r' p' .u .u)) = d_tidy [bk (mulI a b)] := rfl
  show finR (sret (callD 1 d_tidy (acons (var 2) anil)) (frzT 2 (muR a b (mulI a b) w' r' p' .u .u))) = _
  rw [sret_def, cd, td]
  rfl
/-! a book's value at a setting -/
def valK : List Int → List Int → Int
  | k :: ks, s :: ss => s ^ k.toNat * valK ks ss
  | _, _ => 1
def valB : List Ent → List Int → Int
  | [], _ => 0
  | e :: r, s => e.2 * valK e.1 s + valB r s
def OkK (k : List Int) : Prop := k.length = 7 ∧ ∀ x ∈ k, 0 ≤ x
theorem valB_app : ∀ (a b : List Ent) (s : List Int), valB (a ++ b) s = valB a s + valB b s
  | [], b, s => by show valB b s = 0 + valB b s; omega
  | e :: a, b, s => by
    show e.2 * valK e.1 s + valB (a ++ b) s = e.2 * valK e.1 s + valB a s + valB b s
    rw [valB_app a b s]; omega
theorem valB_put : ∀ {es : List Ent} {k : List Int} {n : Int} {s : List Int}, valB (putB es k n) s = valB es s + (n - (getB es k).getD 0) * valK k s
  | [], k, n, s => by
    show n * valK k s + 0 = 0 + (n - 0) * valK k s
    rw [Int.sub_zero]; omega
  | e :: r, k, n, s => by
    unfold putB getB
    by_cases h : e.1 = k
    · rw [if_pos h, if_pos h]
      show n * valK k s + valB r s = e.2 * valK e.1 s + valB r s + (n - e.2) * valK k s
      rw [h, Int.sub_mul]; omega
    · rw [if_neg h, if_neg h]
      show e.2 * valK e.1 s + valB (putB r k n) s = e.2 * valK e.1 s + valB r s + (n - (getB r k).getD 0) * valK k s
      rw [valB_put]; omega
theorem valB_adds {acc : List Ent} {e : Ent} {s : List Int} : valB (addS acc e) s = valB acc s + e.2 * valK e.1 s := by
  unfold addS
  rw [valB_put, show (getB acc e.1).getD 0 + e.2 - (getB acc e.1).getD 0 = e.2 by omega]
theorem valB_tidy : ∀ {es : List Ent} {s : List Int}, valB (tidyB es) s = valB es s
  | [], _ => rfl
  | e :: r, s => by
    by_cases h : e.2 = 0
    · rw [show tidyB (e :: r) = tidyB r from List.filter_cons_of_neg (by simpa using h), valB_tidy]
      show valB r s = e.2 * valK e.1 s + valB r s
      rw [h, Int.zero_mul]; omega
    · rw [show tidyB (e :: r) = e :: tidyB r from List.filter_cons_of_pos (by simpa using h)]
      show e.2 * valK e.1 s + valB (tidyB r) s = _
      rw [valB_tidy]; rfl
theorem valB_opp : ∀ {es : List Ent} {s : List Int}, valB (oppB es) s = -valB es s
  | [], _ => rfl
  | e :: r, s => by
    show -e.2 * valK e.1 s + valB (oppB r) s = -(e.2 * valK e.1 s + valB r s)
    rw [valB_opp, Int.neg_mul]; omega
theorem valB_addI : ∀ {b a : List Ent} {s : List Int}, valB (addI a b) s = valB a s + valB b s
  | [], a, s => by show valB a s = valB a s + 0; omega
  | e :: b, a, s => by
    show valB (addI (addS a e) b) s = valB a s + (e.2 * valK e.1 s + valB b s)
    rw [valB_addI, valB_adds]; omega
theorem valB_add {a b : List Ent} {s : List Int} : valB (addB a b) s = valB a s + valB b s := by
  unfold addB; rw [valB_tidy, valB_addI]
theorem valB_tak {a b : List Ent} {s : List Int} : valB (takB a b) s = valB a s - valB b s := by
  unfold takB; rw [valB_add, valB_opp]; omega
theorem valK_add : ∀ {j k s : List Int}, j.length = k.length → (∀ x ∈ j, 0 ≤ x) → (∀ x ∈ k, 0 ≤ x) → valK (addK j k) s = valK j s * valK k s
  | [], [], s, _, _, _ => by simp [addK, valK]
  | [], _ :: _, _, h, _, _ => by cases h
  | _ :: _, [], _, h, _, _ => by cases h
  | x :: j, y :: k, [], _, _, _ => by simp [addK, valK]
  | x :: j, y :: k, s :: ss, h, h1, h2 => by
    have hx := h1 x (List.mem_cons_self ..)
    have hy := h2 y (List.mem_cons_self ..)
    show s ^ (x + y).toNat * valK (addK j k) ss = s ^ x.toNat * valK j ss * (s ^ y.toNat * valK k ss)
    rw [valK_add (Nat.succ.inj h) (fun z hz => h1 z (List.mem_cons_of_mem _ hz)) (fun z hz => h2 z (List.mem_cons_of_mem _ hz)), Int.toNat_add hx hy, Int.pow_add]
    simp only [Int.mul_assoc, Int.mul_left_comm]
theorem valK_ok {j k s : List Int} (h1 : OkK j) (h2 : OkK k) : valK (addK j k) s = valK j s * valK k s := valK_add (h1.1.trans h2.1.symm) h1.2 h2.2
theorem valB_prod {l : Ent} (hl : OkK l.1) : ∀ {b acc : List Ent} {s : List Int}, (∀ r ∈ b, OkK r.1) → valB (prodS l b acc) s = valB acc s + l.2 * valK l.1 s * valB b s
  | [], acc, s, _ => by show valB acc s = valB acc s + l.2 * valK l.1 s * 0; rw [Int.mul_zero]; omega
  | r :: b, acc, s, h => by
    show valB (prodS l b (addS acc (addK l.1 r.1, l.2 * r.2))) s = valB acc s + l.2 * valK l.1 s * (r.2 * valK r.1 s + valB b s)
    rw [valB_prod hl fun x hx => h x (List.mem_cons_of_mem _ hx), valB_adds, valK_ok hl (h r (List.mem_cons_self ..)), Int.mul_add]
    have : l.2 * r.2 * (valK l.1 s * valK r.1 s) = l.2 * valK l.1 s * (r.2 * valK r.1 s) := by simp only [Int.mul_assoc, Int.mul_left_comm]
    show valB acc s + l.2 * r.2 * (valK l.1 s * valK r.1 s) + _ = _
    rw [this]; omega
theorem valB_mulF {b : List Ent} (hb : ∀ r ∈ b, OkK r.1) : ∀ {a acc : List Ent} {s : List Int}, (∀ e ∈ a, OkK e.1) → valB (a.foldl (fun acc e => prodS e b acc) acc) s = valB acc s + valB a s * valB b s
  | [], acc, s, _ => by show valB acc s = valB acc s + 0 * valB b s; rw [Int.zero_mul]; omega
  | e :: a, acc, s, h => by
    show valB (a.foldl (fun acc e => prodS e b acc) (prodS e b acc)) s = valB acc s + (e.2 * valK e.1 s + valB a s) * valB b s
    rw [valB_mulF hb fun x hx => h x (List.mem_cons_of_mem _ hx), valB_prod (h e (List.mem_cons_self ..)) hb, Int.add_mul]; omega
theorem valB_mul {a b : List Ent} {s : List Int} (ha : ∀ e ∈ a, OkK e.1) (hb : ∀ r ∈ b, OkK r.1) : valB (mulB a b) s = valB a s * valB b s := by
  unfold mulB mulI
  rw [valB_tidy, valB_mulF hb ha]
  show 0 + _ = _
  omega
/-! which monomials stand in a book: sums of n keys -/
abbrev Vc := Nat → Int
def vK (k : List Int) : Vc := fun i => k.getD i 0
inductive Sel (es : List Ent) : Nat → Vc → Prop
  | nil : Sel es 0 (fun _ => 0)
  | cons {k : List Int} {n : Nat} {f : Vc} : k ∈ keysB es → Sel es n f → Sel es (n + 1) (fun i => vK k i + f i)
theorem Sel.one {es : List Ent} {k : List Int} (h : k ∈ keysB es) : Sel es 1 (vK k) := by
  have := Sel.cons h .nil
  rwa [show (fun i => vK k i + (fun _ => (0 : Int)) i) = vK k from funext fun i => by show vK k i + 0 = _; omega] at this
theorem Sel.add {es : List Ent} {n m : Nat} {f g : Vc} (a : Sel es n f) (b : Sel es m g) : Sel es (n + m) (fun i => f i + g i) := by
  induction a with
  | nil => rwa [show (fun i => (fun _ => (0 : Int)) i + g i) = g from funext fun i => by show 0 + g i = _; omega, Nat.zero_add]
  | @cons k n f hk _ ih =>
    have := Sel.cons hk ih
    rwa [show (fun i => vK k i + (fun i => f i + g i) i) = (fun i => (fun i => vK k i + f i) i + g i) from funext fun i => by show vK k i + (f i + g i) = vK k i + f i + g i; omega, show n + m + 1 = n + 1 + m by omega] at this
theorem Sel.none {es : List Ent} {f : Vc} (h : Sel es 0 f) : f = fun _ => 0 := by
  cases h; rfl
theorem Sel.const {es : List Ent} (hc : ∀ k ∈ keysB es, vK k = fun _ => 0) {n : Nat} {f : Vc} (h : Sel es n f) : f = fun _ => 0 := by
  induction h with
  | nil => rfl
  | cons hk _ ih => rw [hc _ hk, ih]; rfl
theorem Sel.sub {a b : List Ent} (hs : ∀ k ∈ keysB a, k ∈ keysB b) {n : Nat} {f : Vc} (h : Sel a n f) : Sel b n f := by
  induction h with
  | nil => exact .nil
  | cons hk _ ih => exact .cons (hs _ hk) ih
theorem Sel.split {a b c : List Ent} (hs : ∀ k ∈ keysB c, k ∈ keysB a ∨ k ∈ keysB b) {n : Nat} {f : Vc} (h : Sel c n f) : ∃ i g g', i ≤ n ∧ Sel a i g ∧ Sel b (n - i) g' ∧ f = fun j => g j + g' j := by
  induction h with
  | nil => exact ⟨0, _, _, Nat.le_refl _, .nil, .nil, rfl⟩
  | @cons k n f hk _ ih =>
    obtain ⟨i, g, g', hi, h1, h2, rfl⟩ := ih
    rcases hs k hk with h | h
    · refine ⟨i + 1, _, g', by omega, .cons h h1, by rw [show n + 1 - (i + 1) = n - i by omega]; exact h2, funext fun j => ?_⟩
      show vK k j + (g j + g' j) = vK k j + g j + g' j
      omega
    · refine ⟨i, g, _, by omega, h1, by rw [show n + 1 - i = n - i + 1 by omega]; exact .cons h h2, funext fun j => ?_⟩
      show vK k j + (g j + g' j) = g j + (vK k j + g' j)
      omega
theorem Sel.prod {a b c : List Ent} (hs : ∀ k ∈ keysB c, ∃ p ∈ keysB a, ∃ q ∈ keysB b, ∀ j, vK k j = vK p j + vK q j) {n : Nat} {f : Vc} (h : Sel c n f) : ∃ g g', Sel a n g ∧ Sel b n g' ∧ f = fun j => g j + g' j := by
  induction h with
  | nil => exact ⟨_, _, .nil, .nil, rfl⟩
  | @cons k n f hk _ ih =>
    obtain ⟨g, g', h1, h2, rfl⟩ := ih
    obtain ⟨p, hp, q, hq, e⟩ := hs k hk
    refine ⟨_, _, .cons hp h1, .cons hq h2, funext fun j => ?_⟩
    show vK k j + (g j + g' j) = vK p j + g j + (vK q j + g' j)
    rw [e j]
    omega
/-! keys of sums and products -/
theorem mem_tidy {es : List Ent} {k : List Int} (h : k ∈ keysB (tidyB es)) : k ∈ keysB es := by
  obtain ⟨e, he, rfl⟩ := List.mem_map.mp h
  exact List.mem_map.mpr ⟨e, (List.mem_filter.mp he).1, rfl⟩
theorem mem_adds {acc : List Ent} {e : Ent} {k : List Int} (h : k ∈ keysB (addS acc e)) : k ∈ keysB acc ∨ k = e.1 := by
  unfold addS at h
  rw [keys_put] at h
  split at h
  · exact .inl h
  · rcases List.mem_append.mp h with h | h
    · exact .inl h
    · exact .inr (List.mem_singleton.mp h)
theorem mem_addI : ∀ {b a : List Ent} {k : List Int}, k ∈ keysB (addI a b) → k ∈ keysB a ∨ k ∈ keysB b
  | [], _, _, h => .inl h
  | e :: b, a, k, h => by
    rcases mem_addI (b := b) (a := addS a e) h with h | h
    · rcases mem_adds h with h | h
      · exact .inl h
      · exact .inr (by rw [h]; exact List.mem_cons_self ..)
    · exact .inr (List.mem_cons_of_mem _ h)
theorem mem_add {a b : List Ent} {k : List Int} (h : k ∈ keysB (addB a b)) : k ∈ keysB a ∨ k ∈ keysB b := mem_addI (mem_tidy h)
theorem mem_tak {a b : List Ent} {k : List Int} (h : k ∈ keysB (takB a b)) : k ∈ keysB a ∨ k ∈ keysB b := by
  have := mem_add h
  rwa [keys_opp] at this
theorem mem_prod {l : Ent} : ∀ {b acc : List Ent} {k : List Int}, k ∈ keysB (prodS l b acc) → k ∈ keysB acc ∨ ∃ q ∈ keysB b, k = addK l.1 q
  | [], _, _, h => .inl h
  | r :: b, acc, k, h => by
    rcases mem_prod (b := b) h with h | ⟨q, hq, e⟩
    · rcases mem_adds h with h | h
      · exact .inl h
      · exact .inr ⟨r.1, List.mem_cons_self .., h⟩
    · exact .inr ⟨q, List.mem_cons_of_mem _ hq, e⟩
theorem mem_mulF {b : List Ent} : ∀ {a acc : List Ent} {k : List Int}, k ∈ keysB (a.foldl (fun acc e => prodS e b acc) acc) → k ∈ keysB acc ∨ ∃ p ∈ keysB a, ∃ q ∈ keysB b, k = addK p q
  | [], _, _, h => .inl h
  | e :: a, acc, k, h => by
    rcases mem_mulF (a := a) h with h | ⟨p, hp, q, hq, ek⟩
    · rcases mem_prod h with h | ⟨q, hq, ek⟩
      · exact .inl h
      · exact .inr ⟨e.1, List.mem_cons_self .., q, hq, ek⟩
    · exact .inr ⟨p, List.mem_cons_of_mem _ hp, q, hq, ek⟩
theorem mem_mul {a b : List Ent} {k : List Int} (h : k ∈ keysB (mulB a b)) : ∃ p ∈ keysB a, ∃ q ∈ keysB b, k = addK p q := by
  rcases mem_mulF (mem_tidy h) with h | h
  · cases h
  · exact h
theorem vK_add : ∀ {p q : List Int}, p.length = q.length → ∀ j, vK (addK p q) j = vK p j + vK q j
  | [], [], _, j => by simp [vK, addK]
  | [], _ :: _, h, _ => by cases h
  | _ :: _, [], h, _ => by cases h
  | x :: p, y :: q, h, 0 => rfl
  | x :: p, y :: q, h, j + 1 => vK_add (p := p) (q := q) (Nat.succ.inj h) j
theorem okK_add {p q : List Int} (h1 : OkK p) (h2 : OkK q) : OkK (addK p q) := by
  refine ⟨by unfold addK; rw [List.length_map, List.length_zip, h1.1, h2.1]; rfl, fun x hx => ?_⟩
  obtain ⟨⟨a, b⟩, hz, rfl⟩ := List.mem_map.mp hx
  have ha := h1.2 a (List.of_mem_zip hz).1
  have hb := h2.2 b (List.of_mem_zip hz).2
  show 0 ≤ a + b
  omega
/-! plain rows on books -/
structure B7 where
  x : List Ent
  y : List Ent
  z : List Ent
  t : List Ent
  b : Fin 3 → List Ent
def B7.L (s : B7) : List (List Ent) := [s.x, s.y, s.z, s.t, s.b 0, s.b 1, s.b 2]
def B7.D (s : B7) : DN.D := .tup [bk s.x, bk s.y, bk s.z, bk s.t, bk (s.b 0), bk (s.b 1), bk (s.b 2)]
def opB : Tw → List Ent → List Ent → List Ent
  | .plus => addB
  | .minus => takB
  | .times => mulB
def dOf : Tw → List D → Res D
  | .plus => d_added
  | .minus => d_taken_v2
  | .times => d_multiplied
def nOf : Tw → Str
  | .plus => "added"
  | .minus => "taken"
  | .times => "multiplied"
def Wd.stepB : Wd → B7 → B7
  | .fig n, s => ⟨conB n.val, s.x, s.y, s.z, s.b⟩
  | .enter, s => ⟨s.x, s.x, s.y, s.z, s.b⟩
  | .two w, s => ⟨opB w s.y s.x, s.z, s.t, s.t, s.b⟩
  | .sign, s => ⟨oppB s.x, s.y, s.z, s.t, s.b⟩
  | .swap, s => ⟨s.y, s.x, s.z, s.t, s.b⟩
  | .roll, s => ⟨s.y, s.z, s.t, s.x, s.b⟩
  | .put k, s => ⟨s.x, s.y, s.z, s.t, fun i => if i = k then s.x else s.b i⟩
  | .get k, s => ⟨s.b k, s.x, s.y, s.z, s.b⟩
abbrev deedsB : DN.D := .tup [.fn "constant", .fn "opposite", .fn "added", .fn "taken", .fn "multiplied"]
abbrev mbR (a : En) (h : DN.D) (w e : En) : Rho := [a, .z h, .z deedsB, .z (.fn "constant"), .z (.fn "opposite"), .z (.fn "added"), .z (.fn "taken"), .z (.fn "multiplied"), w, e]
theorem callF_ok {i : Nat} {F : Str → Option (List D → Res D)} {f : Rho → Res (List D)} {ρ : Rho} {n : Str} {g : List D → Res D} {ds : List D} (h1 : ρ[i]? = some (.z (.fn n))) (h2 : f ρ = .ok ds) (h3 : F n = some g) : callF i F f ρ = g ds := by
  unfold callF
  rw [h1, h2]
  show (match F n with
    | some g => g ds
    | none => .bad) = _
  rw [h3]
def FF : Str → Option (List D → Res D) := (fun n => (if n = "constant" then some (fun ds => if ds.length = 1 then d_constant ds else .bad) else (if n = "opposite" then some (fun ds => if ds.length = 1 then d_opposite_v2 ds else .bad) else (if n = "added" then some (fun ds => if ds.length = 2 then d_added ds else .bad) else (if n = "taken" then some (fun ds => if ds.length = 2 then d_taken_v2 ds else .bad) else (if n = "multiplied" then some (fun ds => if ds.length = 2 then d_multiplied ds else .bad) else none))))))
theorem FF_con : FF "constant" = some (fun ds => if ds.length = 1 then d_constant ds else .bad) := by
  unfold FF
  rw [if_pos rfl]
theorem FF_opp : FF "opposite" = some (fun ds => if ds.length = 1 then d_opposite_v2 ds else .bad) := by
  unfold FF
  rw [if_neg (by decide +kernel), if_pos rfl]
theorem FF_two (w : Tw) : FF (nOf w) = some (fun ds => if ds.length = 2 then dOf w ds else .bad) := by
  unfold FF
  cases w with
  | plus =>
    show (if ("added" : Str) = "constant" then _ else _) = _
    rw [if_neg (by decide +kernel)]
    show (if ("added" : Str) = "opposite" then _ else _) = _
    rw [if_neg (by decide +kernel)]
    show (if ("added" : Str) = "added" then _ else _) = _
    rw [if_pos rfl]
    rfl
  | minus =>
    show (if ("taken" : Str) = "constant" then _ else _) = _
    rw [if_neg (by decide +kernel)]
    show (if ("taken" : Str) = "opposite" then _ else _) = _
    rw [if_neg (by decide +kernel)]
    show (if ("taken" : Str) = "added" then _ else _) = _
    rw [if_neg (by decide +kernel)]
    show (if ("taken" : Str) = "taken" then _ else _) = _
    rw [if_pos rfl]
    rfl
  | times =>
    show (if ("multiplied" : Str) = "constant" then _ else _) = _
    rw [if_neg (by decide +kernel)]
    show (if ("multiplied" : Str) = "opposite" then _ else _) = _
    rw [if_neg (by decide +kernel)]
    show (if ("multiplied" : Str) = "added" then _ else _) = _
    rw [if_neg (by decide +kernel)]
    show (if ("multiplied" : Str) = "taken" then _ else _) = _
    rw [if_neg (by decide +kernel)]
    show (if ("multiplied" : Str) = "multiplied" then _ else _) = _
    rw [if_pos rfl]
    rfl
theorem mb_two (w : Tw) (s : B7) (a e : En) (h : dOf w [bk s.y, bk s.x] = .ok (bk (opB w s.y s.x))) : b1_made_v2 (mbR a s.D (.z (Wd.d (.two w))) e) = .nx (mbR a ((Wd.two w).stepB s).D (.z (Wd.d (.two w))) (.z (.fn (nOf w)))) := by
  have s0 : sif (notQ (tst (callD 1 d_is_word (acons (var 8) anil)))) (sraise "NoKey") sskip (mbR a s.D (.z (Wd.d (.two w))) e) = .nx (mbR a s.D (.z (Wd.d (.two w))) e) := by cases w <;> kernel_rfl
  have s1 : tst (bop inD (var 8) (con (.tup [.str "plus", .str "minus", .str "times"]))) (mbR a s.D (.z (Wd.d (.two w))) e) = .ok true := by cases w <;> kernel_rfl
  have dx : dixD ["plus", "minus", "times"] (acons (var 5) (acons (var 6) (acons (var 7) anil))) (var 8) (mbR a s.D (.z (Wd.d (.two w))) e) = .ok (.fn (nOf w)) := by cases w <;> kernel_rfl
  have ar : acons (bop ixD (var 1) (con (.int 1))) (acons (bop ixD (var 1) (con (.int 0))) anil) (mbR a s.D (.z (Wd.d (.two w))) (.z (.fn (nOf w)))) = .ok [bk s.y, bk s.x] := by kernel_rfl
  have cf := (callF_ok (i := 9) (F := FF) (ρ := mbR a s.D (.z (Wd.d (.two w))) (.z (.fn (nOf w)))) rfl ar (FF_two w)).trans ((if_pos rfl).trans h)
  unfold FF at cf
  unfold b1_made_v2
  rw [sseq_def, s0, seqR_nx, sif_def, s1, ifR_t, sseq_def, sasg_def, dx, asgR_n, seqR_nx]
  have s2 : (mbR a s.D (.z (Wd.d (.two w))) e).set 9 (.z (.fn (nOf w))) = mbR a s.D (.z (Wd.d (.two w))) (.z (.fn (nOf w))) := rfl
  rw [s2, sasg_def, bin_def, mkT_def, acons_def, cf]
  kernel_rfl
theorem mb_sign (s : B7) (a e : En) (h : d_opposite_v2 [bk s.x] = .ok (bk (oppB s.x))) : b1_made_v2 (mbR a s.D (.z (Wd.d .sign)) e) = .nx (mbR a (Wd.sign.stepB s).D (.z (Wd.d .sign)) e) := by
  have s0 : sif (notQ (tst (callD 1 d_is_word (acons (var 8) anil)))) (sraise "NoKey") sskip (mbR a s.D (.z (Wd.d .sign)) e) = .nx (mbR a s.D (.z (Wd.d .sign)) e) := by kernel_rfl
  have s1 : tst (bop inD (var 8) (con (.tup [.str "plus", .str "minus", .str "times"]))) (mbR a s.D (.z (Wd.d .sign)) e) = .ok false := by kernel_rfl
  have s2 : tst (bop eqD (var 8) (con (.str "sign"))) (mbR a s.D (.z (Wd.d .sign)) e) = .ok true := by kernel_rfl
  have ar : acons (bop ixD (var 1) (con (.int 0))) anil (mbR a s.D (.z (Wd.d .sign)) e) = .ok [bk s.x] := by kernel_rfl
  have cf := (callF_ok (i := 4) (F := FF) (ρ := mbR a s.D (.z (Wd.d .sign)) e) rfl ar FF_opp).trans ((if_pos rfl).trans h)
  unfold FF at cf
  unfold b1_made_v2
  rw [sseq_def, s0, seqR_nx, sif_def, s1, ifR_f, sif_def, s2, ifR_t, sasg_def, bin_def, mkT_def, acons_def, cf]
  kernel_rfl
theorem mb_fig (n : Fin 10) (s : B7) (a e : En) : b1_made_v2 (mbR a s.D (.z (Wd.d (.fig n))) e) = .nx (mbR a ((Wd.fig n).stepB s).D (.z (Wd.d (.fig n))) e) := by
  have s0 : sif (notQ (tst (callD 1 d_is_word (acons (var 8) anil)))) (sraise "NoKey") sskip (mbR a s.D (.z (Wd.d (.fig n))) e) = .nx (mbR a s.D (.z (Wd.d (.fig n))) e) := by
    rcases fin10 n with rfl | rfl | rfl | rfl | rfl | rfl | rfl | rfl | rfl | rfl <;> kernel_rfl
  have s1 : tst (bop inD (var 8) (con (.tup [.str "plus", .str "minus", .str "times"]))) (mbR a s.D (.z (Wd.d (.fig n))) e) = .ok false := by
    rcases fin10 n with rfl | rfl | rfl | rfl | rfl | rfl | rfl | rfl | rfl | rfl <;> kernel_rfl
  have s2 : tst (bop eqD (var 8) (con (.str "sign"))) (mbR a s.D (.z (Wd.d (.fig n))) e) = .ok false := by
    rcases fin10 n with rfl | rfl | rfl | rfl | rfl | rfl | rfl | rfl | rfl | rfl <;> kernel_rfl
  have s3 : tst (bop eqD (cal lenD (acons (var 8) anil)) (con (.int 1))) (mbR a s.D (.z (Wd.d (.fig n))) e) = .ok true := by kernel_rfl
  have ar : acons (var 8) anil (mbR a s.D (.z (Wd.d (.fig n))) e) = .ok [Wd.d (.fig n)] := rfl
  have cf := (callF_ok (i := 3) (F := FF) (ρ := mbR a s.D (.z (Wd.d (.fig n))) e) rfl ar FF_con).trans ((if_pos rfl).trans (x_conB n))
  unfold FF at cf
  unfold b1_made_v2
  rw [sseq_def, s0, seqR_nx, sif_def, s1, ifR_f, sif_def, s2, ifR_f, sif_def, s3, ifR_t, sasg_def, bin_def, bin_def, mkT_def, acons_def, cf]
  kernel_rfl
/-- what a word asks of the books -/
def Okw (w : Wd) (s : B7) : Prop := match w with
  | .two v => dOf v [bk s.y, bk s.x] = .ok (bk (opB v s.y s.x))
  | .sign => d_opposite_v2 [bk s.x] = .ok (bk (oppB s.x))
  | _ => True
theorem mb_step (w : Wd) (s : B7) (a e : En) (h : Okw w s) : ∃ e', b1_made_v2 (mbR a s.D (.z w.d) e) = .nx (mbR a (w.stepB s).D (.z w.d) e') := by
  cases w with
  | fig n => exact ⟨e, mb_fig n s a e⟩
  | two w => exact ⟨_, mb_two w s a e h⟩
  | sign => exact ⟨e, mb_sign s a e h⟩
  | enter => exact ⟨e, by kernel_rfl⟩
  | swap => exact ⟨e, by kernel_rfl⟩
  | roll => exact ⟨e, by kernel_rfl⟩
  | put k => rcases fin3 k with rfl | rfl | rfl <;> exact ⟨e, by kernel_rfl⟩
  | get k => rcases fin3 k with rfl | rfl | rfl <;> exact ⟨e, by kernel_rfl⟩
def runB (s : B7) : List Wd → B7
  | [] => s
  | w :: ws => runB (w.stepB s) ws
/-- every word of the row finds what it asks -/
def OkR (s : B7) : List Wd → Prop
  | [] => True
  | w :: ws => Okw w s ∧ OkR (w.stepB s) ws
theorem lp_madeB {a : En} : ∀ (ws : List Wd) (s : B7) (w d : En), OkR s ws → ∃ w' d', loopD (gn 8) b1_made_v2 (ws.map Wd.d) (mbR a s.D w d) = .nx (mbR a (runB s ws).D w' d')
  | [], s, w, d, _ => ⟨w, d, loop_nil⟩
  | k :: ws, s, w, d, h => by
    obtain ⟨d1, hs⟩ := mb_step k s a d h.1
    obtain ⟨w', d', ih⟩ := lp_madeB (a := a) ws (k.stepB s) (.z k.d) d1 h.2
    exact ⟨w', d', by rw [List.map_cons, loop_cons (ρ1 := mbR a s.D (.z k.d) d) rfl hs, ih]; rfl⟩
theorem x_madeB {ws : List Wd} {s : B7} (h : OkR s ws) : d_made_v2 [.tup (ws.map Wd.d), s.D, deedsB] = .ok (runB s ws).D := by
  obtain ⟨w', d', lp⟩ := lp_madeB (a := .z (.tup (ws.map Wd.d))) ws s .u .u h
  have it := its_tup (f := var 0) (ds := ws.map Wd.d) (ρ := mbR (.z (.tup (ws.map Wd.d))) s.D .u .u) rfl
  have k : d_made_v2 [.tup (ws.map Wd.d), s.D, deedsB] = finR (t1_made_v2 (mbR (.z (.tup (ws.map Wd.d))) s.D .u .u)) := by rw [v_made_v2]; rfl
  rw [k]
  unfold t1_made_v2
  rw [sseq_def, sfor_def, it, forR_ok, lp, seqR_nx]
  rfl
/-! forms -/
def unitK (i : Fin 7) : List Int := (List.finRange 7).map fun j => if j = i then 1 else 0
def begB : B7 := ⟨[(unitK 0, 1)], [(unitK 1, 1)], [(unitK 2, 1)], [(unitK 3, 1)], fun i => if i = 0 then [(unitK 4, 1)] else if i = 1 then [(unitK 5, 1)] else [(unitK 6, 1)]⟩
def frmD (es : List Ent) : DN.D := .frm ((L2.sortB es).map DN.entD)
def B7.forms (s : B7) : DN.D := .tup (s.L.map frmD)
theorem x_begin (a : DN.D) : g_forms [.z a, .u, .u, .u, .u, .u] = t1_forms [.z a, .z begB.D, .u, .u, .u, .u] := by kernel_rfl
theorem ents_bk : ∀ es : List Ent, DN.ents (bkV es) = some es
  | [] => rfl
  | e :: r => by
    show (intsOf (kI e.1)).bind _ = _
    rw [intsOf_kI]
    show (DN.ents (bkV r)).map _ = _
    rw [ents_bk r]
    rfl
theorem e3_ok {es : List Ent} {a b c d e : En} : e3_forms [a, b, c, d, e, .z (bk es)] = .ok (frmD es) := by
  have s : sortedD (var 5) [a, b, c, d, e, .z (bk es)] = .ok (.lst ((L2.sortB es).map DN.entD)) := by
    show ofO ((DN.ents (bkV es)).map _) = _
    rw [ents_bk]
    rfl
  unfold e3_forms cal
  rw [acons_def, s]
  rfl
theorem comp_forms {a b c d e : En} : ∀ (l : List (List Ent)) , compD (gn 5) yes e3_forms [a, b, c, d, e, .u] (l.map bk) = .ok (l.map frmD)
  | [] => rfl
  | es :: l => compB_t (show gn 5 [a, b, c, d, e, .u] (bk es) = some [a, b, c, d, e, .z (bk es)] from rfl) rfl e3_ok (comp_forms l)
theorem x_forms {ws : List Wd} (h : OkR begB ws) : d_forms [.tup (ws.map Wd.d)] = .ok (runB begB ws).forms := by
  have m := x_madeB h
  have ar : acons (var 0) (acons (var 1) (acons (mkT (acons (con (.fn "constant")) (acons (con (.fn "opposite")) (acons (con (.fn "added")) (acons (con (.fn "taken")) (acons (con (.fn "multiplied")) anil)))))) anil)) [.z (.tup (ws.map Wd.d)), .z begB.D, .u, .u, .u, .u] = .ok [.tup (ws.map Wd.d), begB.D, deedsB] := rfl
  have cd := (callD_ok (n := 3) (den := d_made_v2) ar rfl).trans m
  rw [v_forms, x_begin]
  unfold t1_forms
  rw [sseq_def, sasg_def, cd, asgR_n, seqR_nx]
  generalize runB begB ws = s
  show finR (t2_forms [.z (.tup (ws.map Wd.d)), .z begB.D, .u, .u, .z s.D, .u]) = _
  have it : its (var 4) [.z (.tup (ws.map Wd.d)), .z begB.D, .u, .u, .z s.D, .u] = .ok (s.L.map bk) := rfl
  have lc := lc_eq (t := yes) (e := e3_forms) (i := 5) it (by simp [B7.L]) (comp_forms s.L)
  unfold t2_forms cal
  rw [sret_def, acons_def, lc]
  rfl
def degK : List Int → Nat
  | [] => 0
  | x :: k => x.toNat + degK k
def entO (e : Ent) : DN.D := .tup [.tup (e.1.map DN.D.int), .int e.2]
theorem offs_ents : ∀ es : List Ent, offs (es.map DN.entD) = es.map entO
  | [] => rfl
  | e :: es => by
    show offP (DN.entD e) :: offs (es.map DN.entD) = _
    rw [offs_ents es]; rfl
/-- what a book must be to be worked out at a setting -/
def Wb (es : List Ent) : Prop := ∀ e ∈ es, e.2.natAbs < 2 ^ 20000 ∧ 24 * degK e.1 ≤ 79000 ∧ ∀ x ∈ e.1, 0 ≤ x ∧ x ≤ 4000
/-! backwards through a row: what a monomial behind it takes of the books ahead of it -/
structure W7 where
  x : Nat
  y : Nat
  z : Nat
  t : Nat
  b : Fin 3 → Nat
def Tk (s : B7) (W : W7) (f : Vc) : Prop := ∃ f0 f1 f2 f3 : Vc, ∃ g : Fin 3 → Vc, Sel s.x W.x f0 ∧ Sel s.y W.y f1 ∧ Sel s.z W.z f2 ∧ Sel s.t W.t f3 ∧ (∀ i, Sel (s.b i) (W.b i) (g i)) ∧ f = fun j => f0 j + f1 j + f2 j + f3 j + (g 0 j + g 1 j + g 2 j)
inductive St : W7 → W7 → Prop
  | same (W : W7) : St W W
  | enter (W : W7) : St W ⟨W.x + W.y, W.z, W.t, 0, W.b⟩
  | plus (W : W7) (i : Nat) : i ≤ W.x → St W ⟨W.x - i, i, W.y, W.z + W.t, W.b⟩
  | times (W : W7) : St W ⟨W.x, W.x, W.y, W.z + W.t, W.b⟩
  | swap (W : W7) : St W ⟨W.y, W.x, W.z, W.t, W.b⟩
  | roll (W : W7) : St W ⟨W.t, W.x, W.y, W.z, W.b⟩
  | fig (W : W7) : St W ⟨W.y, W.z, W.t, 0, W.b⟩
  | put (W : W7) (k : Fin 3) : St W ⟨W.x + W.b k, W.y, W.z, W.t, fun i => if i = k then 0 else W.b i⟩
  | get (W : W7) (k : Fin 3) : St W ⟨W.y, W.z, W.t, 0, fun i => if i = k then W.x + W.b i else W.b i⟩
/-- all keys are of seven numbers, none below 0 -/
def OkB (s : B7) : Prop := ∀ es ∈ s.L, ∀ k ∈ keysB es, OkK k
theorem con_keys {n : Nat} {k : List Int} (h : k ∈ keysB (conB n)) : k = [0, 0, 0, 0, 0, 0, 0] := by
  have := mem_tidy h
  exact List.mem_singleton.mp this
theorem vK_nought : vK [0, 0, 0, 0, 0, 0, 0] = fun _ => 0 := by
  funext j
  match j with
  | 0 => rfl
  | 1 => rfl
  | 2 => rfl
  | 3 => rfl
  | 4 => rfl
  | 5 => rfl
  | 6 => rfl
  | j + 7 => rfl
/-- the steps, word by word -/
inductive Sw : Wd → W7 → W7 → Prop
  | sign (W : W7) : Sw .sign W W
  | enter (W : W7) : Sw .enter W ⟨W.x + W.y, W.z, W.t, 0, W.b⟩
  | plus (W : W7) (i : Nat) : i ≤ W.x → Sw (.two .plus) W ⟨W.x - i, i, W.y, W.z + W.t, W.b⟩
  | minus (W : W7) (i : Nat) : i ≤ W.x → Sw (.two .minus) W ⟨W.x - i, i, W.y, W.z + W.t, W.b⟩
  | times (W : W7) : Sw (.two .times) W ⟨W.x, W.x, W.y, W.z + W.t, W.b⟩
  | swap (W : W7) : Sw .swap W ⟨W.y, W.x, W.z, W.t, W.b⟩
  | roll (W : W7) : Sw .roll W ⟨W.t, W.x, W.y, W.z, W.b⟩
  | fig {n : Fin 10} (W : W7) : Sw (.fig n) W ⟨W.y, W.z, W.t, 0, W.b⟩
  | put (W : W7) (k : Fin 3) : Sw (.put k) W ⟨W.x + W.b k, W.y, W.z, W.t, fun i => if i = k then 0 else W.b i⟩
  | get (W : W7) (k : Fin 3) : Sw (.get k) W ⟨W.y, W.z, W.t, 0, fun i => if i = k then W.x + W.b i else W.b i⟩
theorem Sw.st {w : Wd} {W W' : W7} (h : Sw w W W') : St W W' := by
  cases h with
  | sign => exact .same W
  | enter => exact .enter W
  | plus _ i hi => exact .plus W i hi
  | minus _ i hi => exact .plus W i hi
  | times => exact .times W
  | swap => exact .swap W
  | roll => exact .roll W
  | fig => exact .fig W
  | put _ k => exact .put W k
  | get _ k => exact .get W k
theorem tk_stepW {s : B7} (ok : OkB s) (w : Wd) {W : W7} {f : Vc} (h : Tk (w.stepB s) W f) : ∃ W', Sw w W W' ∧ Tk s W' f := by
  obtain ⟨f0, f1, f2, f3, g, h0, h1, h2, h3, hg, rfl⟩ := h
  have okx : ∀ k ∈ keysB s.x, OkK k := ok s.x (by simp [B7.L])
  have oky : ∀ k ∈ keysB s.y, OkK k := ok s.y (by simp [B7.L])
  cases w with
  | fig n =>
    have e0 : f0 = fun _ => 0 := Sel.const (fun k hk => by rw [con_keys hk]; exact vK_nought) h0
    subst e0
    exact ⟨_, .fig W, f1, f2, f3, fun _ => 0, g, h1, h2, h3, .nil, hg, funext fun j => by show 0 + f1 j + f2 j + f3 j + _ = f1 j + f2 j + f3 j + 0 + _; omega⟩
  | enter => exact ⟨_, .enter W, _, f2, f3, fun _ => 0, g, Sel.add h0 h1, h2, h3, .nil, hg, funext fun j => by show f0 j + f1 j + f2 j + f3 j + _ = (f0 j + f1 j) + f2 j + f3 j + 0 + _; omega⟩
  | sign => exact ⟨_, .sign W, f0, f1, f2, f3, g, Sel.sub (fun k hk => by rwa [show (Wd.sign.stepB s).x = oppB s.x from rfl, keys_opp] at hk) h0, h1, h2, h3, hg, rfl⟩
  | swap => exact ⟨_, .swap W, f1, f0, f2, f3, g, h1, h0, h2, h3, hg, funext fun j => by show f0 j + f1 j + f2 j + f3 j + _ = f1 j + f0 j + f2 j + f3 j + _; omega⟩
  | roll => exact ⟨_, .roll W, f3, f0, f1, f2, g, h3, h0, h1, h2, hg, funext fun j => by show f0 j + f1 j + f2 j + f3 j + _ = f3 j + f0 j + f1 j + f2 j + _; omega⟩
  | two v =>
    cases v with
    | plus =>
      obtain ⟨i, p, q, hi, hp, hq, rfl⟩ := Sel.split (a := s.y) (b := s.x) (fun k hk => mem_add hk) h0
      exact ⟨_, .plus W i hi, q, p, f1, _, g, hq, hp, h1, Sel.add h2 h3, hg, funext fun j => by show p j + q j + f1 j + f2 j + f3 j + _ = q j + p j + f1 j + (f2 j + f3 j) + _; omega⟩
    | minus =>
      obtain ⟨i, p, q, hi, hp, hq, rfl⟩ := Sel.split (a := s.y) (b := s.x) (fun k hk => mem_tak hk) h0
      exact ⟨_, .minus W i hi, q, p, f1, _, g, hq, hp, h1, Sel.add h2 h3, hg, funext fun j => by show p j + q j + f1 j + f2 j + f3 j + _ = q j + p j + f1 j + (f2 j + f3 j) + _; omega⟩
    | times =>
      obtain ⟨p, q, hp, hq, rfl⟩ := Sel.prod (a := s.y) (b := s.x) (fun k hk => by
        obtain ⟨a, ha, b, hb, rfl⟩ := mem_mul hk
        exact ⟨a, ha, b, hb, vK_add ((oky a ha).1.trans (okx b hb).1.symm)⟩) h0
      exact ⟨_, .times W, q, p, f1, _, g, hq, hp, h1, Sel.add h2 h3, hg, funext fun j => by show p j + q j + f1 j + f2 j + f3 j + _ = q j + p j + f1 j + (f2 j + f3 j) + _; omega⟩
  | put k =>
    have hk : Sel s.x (W.b k) (g k) := by
      have := hg k
      rwa [show ((Wd.put k).stepB s).b k = s.x from if_pos rfl] at this
    refine ⟨_, .put W k, _, f1, f2, f3, fun i => if i = k then (fun _ => 0) else g i, Sel.add h0 hk, h1, h2, h3, fun i => ?_, funext fun j => ?_⟩
    · by_cases e : i = k
      · show Sel (s.b i) (if i = k then 0 else W.b i) (if i = k then _ else g i)
        rw [if_pos e, if_pos e]
        exact .nil
      · show Sel (s.b i) (if i = k then 0 else W.b i) (if i = k then _ else g i)
        rw [if_neg e, if_neg e]
        have := hg i
        rwa [show ((Wd.put k).stepB s).b i = s.b i from if_neg e] at this
    · rcases fin3 k with rfl | rfl | rfl
      · show f0 j + f1 j + f2 j + f3 j + (g 0 j + g 1 j + g 2 j) = (f0 j + g 0 j) + f1 j + f2 j + f3 j + (0 + g 1 j + g 2 j)
        omega
      · show f0 j + f1 j + f2 j + f3 j + (g 0 j + g 1 j + g 2 j) = (f0 j + g 1 j) + f1 j + f2 j + f3 j + (g 0 j + 0 + g 2 j)
        omega
      · show f0 j + f1 j + f2 j + f3 j + (g 0 j + g 1 j + g 2 j) = (f0 j + g 2 j) + f1 j + f2 j + f3 j + (g 0 j + g 1 j + 0)
        omega
  | get k =>
    refine ⟨_, .get W k, f1, f2, f3, fun _ => 0, fun i => if i = k then (fun j => f0 j + g i j) else g i, h1, h2, h3, .nil, fun i => ?_, funext fun j => ?_⟩
    · by_cases e : i = k
      · subst e
        show Sel (s.b i) (if i = i then W.x + W.b i else W.b i) (if i = i then _ else g i)
        rw [if_pos rfl, if_pos rfl]
        exact Sel.add h0 (hg i)
      · show Sel (s.b i) (if i = k then W.x + W.b i else W.b i) (if i = k then _ else g i)
        rw [if_neg e, if_neg e]
        exact hg i
    · rcases fin3 k with rfl | rfl | rfl
      · show f0 j + f1 j + f2 j + f3 j + (g 0 j + g 1 j + g 2 j) = f1 j + f2 j + f3 j + 0 + ((f0 j + g 0 j) + g 1 j + g 2 j)
        omega
      · show f0 j + f1 j + f2 j + f3 j + (g 0 j + g 1 j + g 2 j) = f1 j + f2 j + f3 j + 0 + (g 0 j + (f0 j + g 1 j) + g 2 j)
        omega
      · show f0 j + f1 j + f2 j + f3 j + (g 0 j + g 1 j + g 2 j) = f1 j + f2 j + f3 j + 0 + (g 0 j + g 1 j + (f0 j + g 2 j))
        omega
theorem tk_step {s : B7} (ok : OkB s) (w : Wd) {W : W7} {f : Vc} (h : Tk (w.stepB s) W f) : ∃ W', St W W' ∧ Tk s W' f := by
  obtain ⟨W', s', t⟩ := tk_stepW ok w h
  exact ⟨W', s'.st, t⟩
theorem okB_step {s : B7} (ok : OkB s) (w : Wd) : OkB (w.stepB s) := by
  have hx : ∀ k ∈ keysB s.x, OkK k := ok s.x (by simp [B7.L])
  have hy : ∀ k ∈ keysB s.y, OkK k := ok s.y (by simp [B7.L])
  have hz : ∀ k ∈ keysB s.z, OkK k := ok s.z (by simp [B7.L])
  have ht : ∀ k ∈ keysB s.t, OkK k := ok s.t (by simp [B7.L])
  have hb : ∀ i, ∀ k ∈ keysB (s.b i), OkK k := fun i => by
    rcases fin3 i with rfl | rfl | rfl <;> exact ok _ (by simp [B7.L])
  have mk : ∀ s' : B7, (∀ k ∈ keysB s'.x, OkK k) → (∀ k ∈ keysB s'.y, OkK k) → (∀ k ∈ keysB s'.z, OkK k) → (∀ k ∈ keysB s'.t, OkK k) → (∀ i, ∀ k ∈ keysB (s'.b i), OkK k) → OkB s' := fun s' a b c d e es hes => by
    simp only [B7.L, List.mem_cons, List.not_mem_nil, or_false] at hes
    rcases hes with rfl | rfl | rfl | rfl | rfl | rfl | rfl
    · exact a
    · exact b
    · exact c
    · exact d
    · exact e 0
    · exact e 1
    · exact e 2
  cases w with
  | fig n => exact mk _ (fun k hk => by rw [con_keys hk]; exact ⟨rfl, by simp⟩) hx hy hz hb
  | enter => exact mk _ hx hx hy hz hb
  | sign => exact mk _ (fun k hk => by rw [show (Wd.sign.stepB s).x = oppB s.x from rfl, keys_opp] at hk; exact hx k hk) hy hz ht hb
  | swap => exact mk _ hy hx hz ht hb
  | roll => exact mk _ hy hz ht hx hb
  | put k =>
    refine mk _ hx hy hz ht fun i j hj => ?_
    have hj : j ∈ keysB (if i = k then s.x else s.b i) := hj
    split at hj
    · exact hx j hj
    · exact hb i j hj
  | get k => exact mk _ (hb k) hx hy hz hb
  | two v =>
    refine mk _ ?_ hz ht ht hb
    cases v with
    | plus => exact fun k hk => (mem_add hk).elim (hy k) (hx k)
    | minus => exact fun k hk => (mem_tak hk).elim (hy k) (hx k)
    | times =>
      intro k hk
      obtain ⟨a, ha, b, hb', rfl⟩ := mem_mul hk
      exact okK_add (hy a ha) (hx b hb')
/-- W' comes of W in n steps -/
def Rch : Nat → W7 → W7 → Prop
  | 0, W, W' => W = W'
  | n + 1, W, W' => ∃ W1, Rch n W W1 ∧ St W1 W'
theorem Rch.more {n : Nat} {W W' : W7} (h : Rch n W W') : ∀ m, n ≤ m → Rch m W W'
  | 0, hm => by
    obtain rfl : n = 0 := by omega
    exact h
  | m + 1, hm => by
    by_cases e : n = m + 1
    · subst e; exact h
    · exact ⟨W', Rch.more h m (by omega), .same W'⟩
theorem tk_run : ∀ (ws : List Wd) {s : B7} {W : W7} {f : Vc}, OkB s → Tk (runB s ws) W f → ∃ W', Rch ws.length W W' ∧ Tk s W' f
  | [], s, W, f, _, h => ⟨W, rfl, h⟩
  | w :: ws, s, W, f, ok, h => by
    obtain ⟨W1, r, h1⟩ := tk_run ws (s := w.stepB s) (okB_step ok w) h
    obtain ⟨W2, st, h2⟩ := tk_step ok w h1
    exact ⟨W2, ⟨W1, r, st⟩, h2⟩
def W7.v (W : W7) : Vc := fun j => match j with
  | 0 => W.x
  | 1 => W.y
  | 2 => W.z
  | 3 => W.t
  | 4 => W.b 0
  | 5 => W.b 1
  | 6 => W.b 2
  | _ => 0
theorem sel_unit {k : List Int} {c : Int} {n : Nat} {f : Vc} (h : Sel [(k, c)] n f) : ∀ j, f j = n * vK k j := by
  induction h with
  | nil => intro j; simp
  | @cons k' n f hk _ ih =>
    intro j
    obtain rfl : k' = k := List.mem_singleton.mp hk
    show vK k' j + f j = _
    rw [ih j, Int.natCast_add, Int.add_mul]
    simp
    omega
theorem okB_beg : OkB begB := by
  intro es hes k hk
  simp only [B7.L, List.mem_cons, List.not_mem_nil, or_false] at hes
  have h : k = unitK 0 ∨ k = unitK 1 ∨ k = unitK 2 ∨ k = unitK 3 ∨ k = unitK 4 ∨ k = unitK 5 ∨ k = unitK 6 := by
    rcases hes with rfl | rfl | rfl | rfl | rfl | rfl | rfl
    · exact .inl (List.mem_singleton.mp hk)
    · exact .inr (.inl (List.mem_singleton.mp hk))
    · exact .inr (.inr (.inl (List.mem_singleton.mp hk)))
    · exact .inr (.inr (.inr (.inl (List.mem_singleton.mp hk))))
    · exact .inr (.inr (.inr (.inr (.inl (List.mem_singleton.mp hk)))))
    · exact .inr (.inr (.inr (.inr (.inr (.inl (List.mem_singleton.mp hk))))))
    · exact .inr (.inr (.inr (.inr (.inr (.inr (List.mem_singleton.mp hk))))))
  rcases h with rfl | rfl | rfl | rfl | rfl | rfl | rfl <;> exact ⟨by decide, by decide⟩
theorem unit_v : ∀ j : Nat, vK (unitK 0) j = (if j = 0 then 1 else 0) ∧ vK (unitK 1) j = (if j = 1 then 1 else 0) ∧ vK (unitK 2) j = (if j = 2 then 1 else 0) ∧ vK (unitK 3) j = (if j = 3 then 1 else 0) ∧ vK (unitK 4) j = (if j = 4 then 1 else 0) ∧ vK (unitK 5) j = (if j = 5 then 1 else 0) ∧ vK (unitK 6) j = (if j = 6 then 1 else 0)
  | 0 => by decide
  | 1 => by decide
  | 2 => by decide
  | 3 => by decide
  | 4 => by decide
  | 5 => by decide
  | 6 => by decide
  | j + 7 => by
    have h : ∀ i : Fin 7, vK (unitK i) (j + 7) = 0 := fun i => by
      unfold vK
      rw [List.getD_eq_getElem?_getD, List.getElem?_eq_none (by unfold unitK; rw [List.length_map, List.length_finRange]; omega)]
      rfl
    refine ⟨?_, ?_, ?_, ?_, ?_, ?_, ?_⟩ <;> rw [h, if_neg (by omega)]
theorem tk_beg {W : W7} {f : Vc} (h : Tk begB W f) : f = W.v := by
  obtain ⟨f0, f1, f2, f3, g, h0, h1, h2, h3, hg, rfl⟩ := h
  have e0 := sel_unit h0
  have e1 := sel_unit h1
  have e2 := sel_unit h2
  have e3 := sel_unit h3
  have e4 := sel_unit (show Sel [(unitK 4, 1)] (W.b 0) (g 0) from hg 0)
  have e5 := sel_unit (show Sel [(unitK 5, 1)] (W.b 1) (g 1) from hg 1)
  have e6 := sel_unit (show Sel [(unitK 6, 1)] (W.b 2) (g 2) from hg 2)
  funext j
  obtain ⟨u0, u1, u2, u3, u4, u5, u6⟩ := unit_v j
  show f0 j + f1 j + f2 j + f3 j + (g 0 j + g 1 j + g 2 j) = W.v j
  rw [e0, e1, e2, e3, e4, e5, e6, u0, u1, u2, u3, u4, u5, u6]
  match j with
  | 0 => simp [W7.v]
  | 1 => simp [W7.v]
  | 2 => simp [W7.v]
  | 3 => simp [W7.v]
  | 4 => simp [W7.v]
  | 5 => simp [W7.v]
  | 6 => simp [W7.v]
  | j + 7 => simp [W7.v]
def eY : W7 := ⟨0, 1, 0, 0, fun _ => 0⟩
/-- the monomials of the book at y behind a row -/
theorem key_y {ws : List Wd} {k : List Int} (h : k ∈ keysB (runB begB ws).y) : ∃ W, Rch ws.length eY W ∧ vK k = W.v := by
  have t : Tk (runB begB ws) eY (vK k) := ⟨fun _ => 0, vK k, fun _ => 0, fun _ => 0, fun _ _ => 0, .nil, Sel.one h, .nil, .nil, fun _ => .nil, funext fun j => by show vK k j = 0 + vK k j + 0 + 0 + (0 + 0 + 0); omega⟩
  obtain ⟨W', r, h2⟩ := tk_run ws okB_beg t
  exact ⟨W', r, tk_beg h2⟩
/-- a key by its numbers -/
theorem key_of_v {k : List Int} (hk : k.length = 7) {W : W7} (h : vK k = W.v) : k = [(W.x : Int), W.y, W.z, W.t, W.b 0, W.b 1, W.b 2] := by
  match k, hk with
  | [a, b, c, d, e, p, q], _ =>
    have h0 : a = W.x := congrFun h 0
    have h1 : b = W.y := congrFun h 1
    have h2 : c = W.z := congrFun h 2
    have h3 : d = W.t := congrFun h 3
    have h4 : e = W.b 0 := congrFun h 4
    have h5 : p = W.b 1 := congrFun h 5
    have h6 : q = W.b 2 := congrFun h 6
    rw [h0, h1, h2, h3, h4, h5, h6]
/-! the books' values go as the law's row goes -/
def sv (s : B7) (σ : List Int) : S7 := ⟨valB s.x σ, valB s.y σ, valB s.z σ, valB s.t σ, fun i => valB (s.b i) σ⟩
theorem valK_nought : ∀ σ : List Int, valK [0, 0, 0, 0, 0, 0, 0] σ = 1 := by
  have h : ∀ (n : Nat) (σ : List Int), valK (List.replicate n 0) σ = 1 := fun n => by
    induction n with
    | zero => intro σ; rfl
    | succ n ih =>
      intro σ
      cases σ with
      | nil => rfl
      | cons v σ =>
        show v ^ (0 : Int).toNat * valK (List.replicate n 0) σ = 1
        rw [ih σ, show (0 : Int).toNat = 0 from rfl, Int.pow_zero]
        rfl
  exact h 7
theorem valB_con {n : Nat} {σ : List Int} : valB (conB n) σ = n := by
  unfold conB
  rw [valB_tidy]
  show (n : Int) * valK [0, 0, 0, 0, 0, 0, 0] σ + 0 = n
  rw [valK_nought, Int.mul_one, Int.add_zero]
theorem keys_ok {es : List Ent} (h : ∀ k ∈ keysB es, OkK k) : ∀ e ∈ es, OkK e.1 := fun e he => h _ (List.mem_map.mpr ⟨e, he, rfl⟩)
theorem sv_step {s : B7} (ok : OkB s) (w : Wd) (σ : List Int) : sv (w.stepB s) σ = w.step (sv s σ) := by
  have hx : ∀ e ∈ s.x, OkK e.1 := keys_ok (ok s.x (by simp [B7.L]))
  have hy : ∀ e ∈ s.y, OkK e.1 := keys_ok (ok s.y (by simp [B7.L]))
  cases w with
  | fig n =>
    show (⟨valB (conB n.val) σ, _, _, _, _⟩ : S7) = ⟨_, _, _, _, _⟩
    rw [valB_con]
    rfl
  | enter => rfl
  | swap => rfl
  | roll => rfl
  | get k => rfl
  | sign =>
    show (⟨valB (oppB s.x) σ, _, _, _, _⟩ : S7) = ⟨_, _, _, _, _⟩
    rw [valB_opp]
    rfl
  | put k =>
    show (⟨_, _, _, _, fun i => valB (if i = k then s.x else s.b i) σ⟩ : S7) = ⟨_, _, _, _, fun i => if i = k then valB s.x σ else valB (s.b i) σ⟩
    congr 1
    funext i
    split <;> rfl
  | two v =>
    cases v with
    | plus =>
      show (⟨valB (addB s.y s.x) σ, _, _, _, _⟩ : S7) = ⟨_, _, _, _, _⟩
      rw [valB_add]
      rfl
    | minus =>
      show (⟨valB (takB s.y s.x) σ, _, _, _, _⟩ : S7) = ⟨_, _, _, _, _⟩
      rw [valB_tak]
      rfl
    | times =>
      show (⟨valB (mulB s.y s.x) σ, _, _, _, _⟩ : S7) = ⟨_, _, _, _, _⟩
      rw [valB_mul hy hx]
      rfl
theorem sv_run : ∀ (ws : List Wd) {s : B7} (σ : List Int), OkB s → sv (runB s ws) σ = runW (sv s σ) ws
  | [], s, σ, _ => rfl
  | w :: ws, s, σ, ok => by
    show sv (runB (w.stepB s) ws) σ = runW (w.step (sv s σ)) ws
    rw [sv_run ws σ (okB_step ok w), sv_step ok]
theorem pow_1 (z : Int) : z ^ 1 = z := by rw [Int.pow_succ, Int.pow_zero, Int.one_mul]
theorem valK_unit {i : Fin 7} {a b c d e p q : Int} : valK (unitK i) [a, b, c, d, e, p, q] = [a, b, c, d, e, p, q].getD i.val 0 := by
  match i with
  | 0 => simp [unitK, valK, List.finRange, pow_1]
  | 1 => simp [unitK, valK, List.finRange, pow_1]
  | 2 => simp [unitK, valK, List.finRange, pow_1]
  | 3 => simp [unitK, valK, List.finRange, pow_1]; rfl
  | 4 => simp [unitK, valK, List.finRange, pow_1]; rfl
  | 5 => simp [unitK, valK, List.finRange, pow_1]; rfl
  | 6 => simp [unitK, valK, List.finRange, pow_1]; rfl
def NdB (s : B7) : Prop := ∀ es ∈ s.L, (keysB es).Nodup
theorem nd_addB {a b : List Ent} (h : (keysB a).Nodup) : (keysB (addB a b)).Nodup := nd_tidy (nd_addI h)
theorem nd_mulB {a b : List Ent} : (keysB (mulB a b)).Nodup := nd_tidy (small_mulI (P := fun _ => True) small_nil fun _ _ _ _ => trivial).nd
theorem nd_step {s : B7} (ok : NdB s) (w : Wd) : NdB (w.stepB s) := by
  have hx : (keysB s.x).Nodup := ok s.x (by simp [B7.L])
  have hy : (keysB s.y).Nodup := ok s.y (by simp [B7.L])
  have hz : (keysB s.z).Nodup := ok s.z (by simp [B7.L])
  have ht : (keysB s.t).Nodup := ok s.t (by simp [B7.L])
  have hb : ∀ i, (keysB (s.b i)).Nodup := fun i => by
    rcases fin3 i with rfl | rfl | rfl <;> exact ok _ (by simp [B7.L])
  have mk : ∀ s' : B7, (keysB s'.x).Nodup → (keysB s'.y).Nodup → (keysB s'.z).Nodup → (keysB s'.t).Nodup → (∀ i, (keysB (s'.b i)).Nodup) → NdB s' := fun s' a b c d e es hes => by
    simp only [B7.L, List.mem_cons, List.not_mem_nil, or_false] at hes
    rcases hes with rfl | rfl | rfl | rfl | rfl | rfl | rfl
    · exact a
    · exact b
    · exact c
    · exact d
    · exact e 0
    · exact e 1
    · exact e 2
  cases w with
  | fig n => exact mk _ (nd_tidy (by unfold keysB; simp)) hx hy hz hb
  | enter => exact mk _ hx hx hy hz hb
  | sign => exact mk _ (by rw [show (Wd.sign.stepB s).x = oppB s.x from rfl, keys_opp]; exact hx) hy hz ht hb
  | swap => exact mk _ hy hx hz ht hb
  | roll => exact mk _ hy hz ht hx hb
  | put k =>
    refine mk _ hx hy hz ht fun i => ?_
    show (keysB (if i = k then s.x else s.b i)).Nodup
    split
    · exact hx
    · exact hb i
  | get k => exact mk _ (hb k) hx hy hz hb
  | two v =>
    refine mk _ ?_ hz ht ht hb
    cases v with
    | plus => exact nd_addB hy
    | minus => exact nd_addB hy
    | times => exact nd_mulB
theorem nd_beg : NdB begB := by
  intro es hes
  simp only [B7.L, List.mem_cons, List.not_mem_nil, or_false] at hes
  rcases hes with rfl | rfl | rfl | rfl | rfl | rfl | rfl <;> exact List.nodup_cons.mpr ⟨List.not_mem_nil, List.nodup_nil⟩
/-! the sum of the coefficients' sizes -/
def nrm : List Ent → Nat
  | [] => 0
  | e :: r => e.2.natAbs + nrm r
theorem nrm_mem : ∀ {es : List Ent} {e : Ent}, e ∈ es → e.2.natAbs ≤ nrm es
  | d :: r, e, h => by
    show _ ≤ d.2.natAbs + nrm r
    rcases List.mem_cons.mp h with rfl | h
    · omega
    · have := nrm_mem h; omega
theorem nrm_tidy : ∀ es : List Ent, nrm (tidyB es) ≤ nrm es
  | [] => Nat.le_refl _
  | e :: r => by
    have ih := nrm_tidy r
    by_cases h : e.2 = 0
    · rw [show tidyB (e :: r) = tidyB r from List.filter_cons_of_neg (by simpa using h)]
      show _ ≤ e.2.natAbs + nrm r
      omega
    · rw [show tidyB (e :: r) = e :: tidyB r from List.filter_cons_of_pos (by simpa using h)]
      show e.2.natAbs + nrm (tidyB r) ≤ e.2.natAbs + nrm r
      omega
theorem nrm_put : ∀ {es : List Ent} {k : List Int} {m : Int}, nrm (putB es k ((getB es k).getD 0 + m)) ≤ nrm es + m.natAbs
  | [], k, m => by
    show (0 + m).natAbs + 0 ≤ 0 + m.natAbs
    omega
  | e :: r, k, m => by
    unfold putB getB
    by_cases h : e.1 = k
    · rw [if_pos h, if_pos h]
      show (e.2 + m).natAbs + nrm r ≤ e.2.natAbs + nrm r + m.natAbs
      omega
    · rw [if_neg h, if_neg h]
      have := nrm_put (es := r) (k := k) (m := m)
      show e.2.natAbs + nrm (putB r k _) ≤ e.2.natAbs + nrm r + m.natAbs
      omega
theorem nrm_adds {acc : List Ent} {e : Ent} : nrm (addS acc e) ≤ nrm acc + e.2.natAbs := nrm_put
theorem nrm_addI : ∀ {b a : List Ent}, nrm (addI a b) ≤ nrm a + nrm b
  | [], a => Nat.le_refl _
  | e :: b, a => by
    have h1 := nrm_addI (b := b) (a := addS a e)
    have h2 := nrm_adds (acc := a) (e := e)
    show nrm (addI (addS a e) b) ≤ nrm a + (e.2.natAbs + nrm b)
    omega
theorem nrm_add {a b : List Ent} : nrm (addB a b) ≤ nrm a + nrm b := Nat.le_trans (nrm_tidy _) nrm_addI
theorem nrm_opp : ∀ es : List Ent, nrm (oppB es) = nrm es
  | [] => rfl
  | e :: r => by
    show (-e.2).natAbs + nrm (oppB r) = e.2.natAbs + nrm r
    rw [nrm_opp r, Int.natAbs_neg]
theorem nrm_tak {a b : List Ent} : nrm (takB a b) ≤ nrm a + nrm b := by
  have := nrm_add (a := a) (b := oppB b)
  rwa [nrm_opp] at this
theorem nrm_prod {l : Ent} : ∀ {b acc : List Ent}, nrm (prodS l b acc) ≤ nrm acc + l.2.natAbs * nrm b
  | [], acc => Nat.le_add_right _ _
  | r :: b, acc => by
    have h1 := nrm_prod (l := l) (b := b) (acc := addS acc (addK l.1 r.1, l.2 * r.2))
    have h2 := nrm_adds (acc := acc) (e := (addK l.1 r.1, l.2 * r.2))
    have h3 : (l.2 * r.2).natAbs = l.2.natAbs * r.2.natAbs := Int.natAbs_mul ..
    have h4 : l.2.natAbs * (r.2.natAbs + nrm b) = l.2.natAbs * r.2.natAbs + l.2.natAbs * nrm b := Nat.mul_add ..
    have h2 : nrm (addS acc (addK l.1 r.1, l.2 * r.2)) ≤ nrm acc + (l.2 * r.2).natAbs := h2
    show nrm (prodS l b (addS acc (addK l.1 r.1, l.2 * r.2))) ≤ nrm acc + l.2.natAbs * (r.2.natAbs + nrm b)
    omega
theorem nrm_mulF {b : List Ent} : ∀ {a acc : List Ent}, nrm (a.foldl (fun acc e => prodS e b acc) acc) ≤ nrm acc + nrm a * nrm b
  | [], acc => Nat.le_add_right _ _
  | e :: a, acc => by
    have h1 := nrm_mulF (b := b) (a := a) (acc := prodS e b acc)
    have h2 := nrm_prod (l := e) (b := b) (acc := acc)
    have h4 : (e.2.natAbs + nrm a) * nrm b = e.2.natAbs * nrm b + nrm a * nrm b := Nat.add_mul ..
    show nrm (a.foldl _ (prodS e b acc)) ≤ nrm acc + (e.2.natAbs + nrm a) * nrm b
    omega
theorem nrm_mul {a b : List Ent} : nrm (mulB a b) ≤ nrm a * nrm b := by
  have h1 := nrm_tidy (mulI a b)
  have h2 := nrm_mulF (b := b) (a := a) (acc := [])
  have h2 : nrm (mulI a b) ≤ 0 + nrm a * nrm b := h2
  unfold mulB
  omega
def S7.l (s : S7) : List Int := [s.x, s.y, s.z, s.t, s.b 0, s.b 1, s.b 2]
theorem valB_unit {i : Fin 7} (s : S7) : valB [(unitK i, 1)] s.l = s.l.getD i.val 0 := by
  show 1 * valK (unitK i) s.l + 0 = _
  rw [Int.one_mul, Int.add_zero]
  exact valK_unit
theorem sv_beg (s : S7) : sv begB s.l = s := by
  obtain ⟨x, y, z, t, b⟩ := s
  unfold sv begB
  have h := fun i => valB_unit (i := i) ⟨x, y, z, t, b⟩
  congr 1
  · exact h 0
  · exact h 1
  · exact h 2
  · exact h 3
  · funext i
    rcases fin3 i with rfl | rfl | rfl
    · exact h 4
    · exact h 5
    · exact h 6
/-- the seven values of the books behind a row are what the row makes of the setting -/
theorem vals_row (ws : List Wd) (s : S7) : sv (runB begB ws) s.l = runW s ws := by
  rw [sv_run ws s.l okB_beg, sv_beg]
/-! a form is a permutation of its book -/
theorem sort_perm (es : List Ent) : (L2.sortB es).Perm es := List.mergeSort_perm ..
theorem valB_perm {a b : List Ent} (h : a.Perm b) (σ : List Int) : valB a σ = valB b σ := by
  induction h with
  | nil => rfl
  | cons x _ ih =>
    show x.2 * valK x.1 σ + valB _ σ = x.2 * valK x.1 σ + valB _ σ
    rw [ih]
  | swap x y l =>
    show y.2 * valK y.1 σ + (x.2 * valK x.1 σ + valB l σ) = x.2 * valK x.1 σ + (y.2 * valK y.1 σ + valB l σ)
    omega
  | trans _ _ h1 h2 => exact h1.trans h2
theorem valB_sort (es : List Ent) (σ : List Int) : valB (L2.sortB es) σ = valB es σ := valB_perm (sort_perm es) σ
theorem mem_sort {es : List Ent} {e : Ent} : e ∈ L2.sortB es ↔ e ∈ es := (sort_perm es).mem_iff
/-! hashes of keys -/
theorem hashInt_small {n : Nat} (h : n < 4096) : hashInt (n : Int) = n := by
  have e : rawHash (n : Int) = n := by
    simp only [rawHash]
    have e1 : ((n : Int).natAbs : Int) % ((2 ^ 61 - 1 : Nat) : Int) = n := by
      rw [Int.natAbs_natCast]
      have : ((2 ^ 61 - 1 : Nat) : Int) = 2305843009213693951 := by decide
      rw [this]
      omega
    rw [e1, if_neg (by omega : ¬ (n : Int) < 0)]
    have e2 : ((n : Int) == -1) = false := beq_eq_false_iff_ne.mpr (by omega)
    rw [e2]
    rfl
  unfold hashInt
  rw [e]
  have e2 : ((n : Int) == -1) = false := beq_eq_false_iff_ne.mpr (by omega)
  rw [e2]
  rfl
def rndN (acc x : Nat) : Nat := ((((acc + x * 14029467366897019727) % 18446744073709551616) * 2147483648) % 18446744073709551616 + ((acc + x * 14029467366897019727) % 18446744073709551616) / 8589934592) * 11400714785074694791 % 18446744073709551616
def finN (a : Nat) : Int := if a = 18446744073709551615 then 1546275796 else if a < 9223372036854775808 then (a : Int) else (a : Int) - 18446744073709551616
theorem fold_rnd : ∀ (ns : List Nat) (acc : Nat), (∀ n ∈ ns, n < 4096) → (ns.map fun n => ((n : Nat) : Int)).foldl (fun (acc : Nat) (h : Int) =>
    ((acc + (h % ((2 ^ 64 : Nat) : Int)).toNat * 14029467366897019727) % 2 ^ 64 * 2 ^ 31 % 2 ^ 64 + (acc + (h % ((2 ^ 64 : Nat) : Int)).toNat * 14029467366897019727) % 2 ^ 64 / 2 ^ 33) * 11400714785074694791 % 2 ^ 64) acc = ns.foldl rndN acc
  | [], acc, _ => rfl
  | n :: ns, acc, h => by
    have hn := h n (List.mem_cons_self ..)
    have e : ((n : Int) % ((2 ^ 64 : Nat) : Int)).toNat = n := by
      have : ((2 ^ 64 : Nat) : Int) = 18446744073709551616 := by decide
      rw [this]
      omega
    rw [List.map_cons, List.foldl_cons, List.foldl_cons, e]
    exact fold_rnd ns _ fun x hx => h x (List.mem_cons_of_mem _ hx)
theorem tup_hash {ns : List Nat} (h : ∀ n ∈ ns, n < 4096) (hl : ns.length = 7) : PySem.Builtin.Tuple.tupleHashOf (ns.map fun n => ((n : Nat) : Int)) = finN ((ns.foldl rndN 2870177450012600261 + (7 ^^^ (2870177450012600261 ^^^ 3527539))) % 18446744073709551616) := by
  have f := fold_rnd ns 2870177450012600261 h
  unfold PySem.Builtin.Tuple.tupleHashOf
  simp only [List.length_map, hl]
  rw [f]
  generalize ((ns.foldl rndN 2870177450012600261 + (7 ^^^ (2870177450012600261 ^^^ 3527539))) % 18446744073709551616) = a
  unfold finN
  show (if (a == 18446744073709551615) = true then (1546275796 : Int) else if a < 9223372036854775808 then (a : Int) else (a : Int) - 18446744073709551616) = _
  by_cases q : a = 18446744073709551615
  · rw [if_pos q, if_pos (beq_iff_eq.mpr q)]
  · rw [if_neg q, if_neg (fun z => q (beq_iff_eq.mp z))]
/-- the last number behind the rounds -/
def endN (ns : List Nat) : Nat := (ns.foldl rndN 2870177450012600261 + (7 ^^^ (2870177450012600261 ^^^ 3527539))) % 18446744073709551616
theorem key_hash {ns : List Nat} (h : ∀ n ∈ ns, n < 4096) (hl : ns.length = 7) : L2.keyHashI (ns.map fun n => ((n : Nat) : Int)) = reduceHash (finN (endN ns)) := by
  unfold L2.keyHashI
  have e : (ns.map fun n => ((n : Nat) : Int)).map hashInt = ns.map fun n => ((n : Nat) : Int) := by
    rw [List.map_map]
    exact List.map_congr_left fun n hn => hashInt_small (h n hn)
  rw [e, tup_hash h hl]
  rfl
theorem endN_lt (ns : List Nat) : endN ns < 18446744073709551616 := Nat.mod_lt _ (by decide)
theorem red_fin {a : Nat} (h : a < 18446744073709551615) : reduceHash (finN a) = if a < 9223372036854775808 then (a : Int) else (a : Int) - 18446744073709551616 := by
  unfold finN
  rw [if_neg (by omega)]
  unfold reduceHash
  split
  · rw [if_pos (by simp; omega), if_neg (by first | (simp; done) | (simp; omega))]
  · rw [if_pos (by simp; omega), if_neg (by first | (simp; done) | (simp; omega))]
theorem hash_apart {ns ms : List Nat} (h1 : ∀ n ∈ ns, n < 4096) (h2 : ∀ n ∈ ms, n < 4096) (l1 : ns.length = 7) (l2 : ms.length = 7) (e1 : endN ns ≠ 18446744073709551615) (e2 : endN ms ≠ 18446744073709551615)
    (h : L2.keyHashI (ns.map fun n => ((n : Nat) : Int)) = L2.keyHashI (ms.map fun n => ((n : Nat) : Int))) : endN ns = endN ms := by
  have b1 := endN_lt ns
  have b2 := endN_lt ms
  rw [key_hash h1 l1, key_hash h2 l2, red_fin (by omega), red_fin (by omega)] at h
  split at h <;> split at h <;> first | omega | exact absurd h (by omega)
def NrB (e : Nat) (s : B7) : Prop := nrm s.x < 2 ^ e ∧ nrm s.y < 2 ^ e ∧ nrm s.z < 2 ^ e ∧ nrm s.t < 2 ^ e ∧ ∀ i, nrm (s.b i) < 2 ^ e
theorem nr_step {s : B7} {e : Nat} (he : 4 ≤ e) (h : NrB e s) (w : Wd) : NrB (2 * e) (w.stepB s) := by
  obtain ⟨h1, h2, h3, h4, h5⟩ := h
  have p : (2 : Nat) ^ e ≤ 2 ^ (2 * e) := Nat.pow_le_pow_right (by decide) (by omega)
  have q4 : (2 : Nat) ^ 4 ≤ 2 ^ e := Nat.pow_le_pow_right (by decide) he
  have e2 : (2 : Nat) ^ (2 * e) = 2 ^ e * 2 ^ e := by rw [Nat.two_mul, Nat.pow_add]
  have dbl : 2 ^ e + 2 ^ e ≤ 2 ^ e * 2 ^ e := by
    have := Nat.mul_le_mul_right (2 ^ e) (show 2 ≤ 2 ^ e by omega)
    omega
  have u : ∀ {n : Nat}, n < 2 ^ e → n < 2 ^ (2 * e) := fun h => Nat.lt_of_lt_of_le h p
  cases w with
  | fig n =>
    refine ⟨?_, u h1, u h2, u h3, fun i => u (h5 i)⟩
    have a := nrm_tidy [([0, 0, 0, 0, 0, 0, 0], (n.val : Int))]
    have b : nrm [([0, 0, 0, 0, 0, 0, 0], (n.val : Int))] = (n.val : Int).natAbs + 0 := rfl
    have c := n.isLt
    show nrm (tidyB [([0, 0, 0, 0, 0, 0, 0], (n.val : Int))]) < _
    omega
  | enter => exact ⟨u h1, u h1, u h2, u h3, fun i => u (h5 i)⟩
  | sign => exact ⟨by show nrm (oppB s.x) < _; rw [nrm_opp]; exact u h1, u h2, u h3, u h4, fun i => u (h5 i)⟩
  | swap => exact ⟨u h2, u h1, u h3, u h4, fun i => u (h5 i)⟩
  | roll => exact ⟨u h2, u h3, u h4, u h1, fun i => u (h5 i)⟩
  | put k =>
    refine ⟨u h1, u h2, u h3, u h4, fun i => ?_⟩
    show nrm (if i = k then s.x else s.b i) < _
    split
    · exact u h1
    · exact u (h5 i)
  | get k => exact ⟨u (h5 k), u h1, u h2, u h3, fun i => u (h5 i)⟩
  | two v =>
    refine ⟨?_, u h3, u h4, u h4, fun i => u (h5 i)⟩
    rw [e2]
    cases v with
    | plus =>
      have := nrm_add (a := s.y) (b := s.x)
      show nrm (addB s.y s.x) < _
      omega
    | minus =>
      have := nrm_tak (a := s.y) (b := s.x)
      show nrm (takB s.y s.x) < _
      omega
    | times => exact Nat.lt_of_le_of_lt nrm_mul (Nat.mul_lt_mul'' h2 h1)
theorem kmod_eq (a b : Nat) : Nat.mod a b = a % b := rfl
theorem kdiv_eq (a b : Nat) : Nat.div a b = a / b := rfl
theorem kadd_eq (a b : Nat) : Nat.add a b = a + b := rfl
theorem kmul_eq (a b : Nat) : Nat.mul a b = a * b := rfl
/-! codes of monomials and their steps -/
def cdK (x y z t a0 a1 a2 : Nat) : Nat := x + 4096 * y + 16777216 * z + 68719476736 * t + (281474976710656 * a0 + 1152921504606846976 * a1 + 4722366482869645213696 * a2)
theorem kfc_at {α : Type} {n m : Nat} {k : Nat → α} {r : α} (h : n = m) (hk : k m = r) : kfc n k = r := by
  rw [kfc_eq, h, hk]
theorem kst3_eq {d e1 e2 b0 f0 b1 f1 b2 f2 u g1 g2 g3 g4 g5 x d' e1' e2' f0' f1' f2' u' g1' g2' g3' g4' g5' : Nat} {r : List Nat} (h1 : d = d') (h2 : e1 = e1') (h3 : e2 = e2') (h4 : f0 = f0') (h5 : f1 = f1') (h6 : f2 = f2') (h7 : u = u') (h8 : g1 = g1') (h9 : g2 = g2') (h10 : g3 = g3') (h11 : g4 = g4') (h12 : g5 = g5') :
    kst3 d e1 e2 b0 f0 b1 f1 b2 f2 u g1 g2 g3 g4 g5 x r = kst3 d' e1' e2' b0 f0' b1 f1' b2 f2' u' g1' g2' g3' g4' g5' x r := by
  rw [h1, h2, h3, h4, h5, h6, h7, h8, h9, h10, h11, h12]
def gd1 (x y z t a0 a1 a2 : Nat) : Nat := if a1 + x ≤ a0 then cdK y z t 0 a0 (a1 + x) a2 else cdK y z t 0 (a1 + x) a0 a2
def gd2 (x y z t a0 a1 a2 : Nat) : Nat := if a2 + x ≤ a1 then cdK y z t 0 a0 a1 (a2 + x) else if a2 + x ≤ a0 then cdK y z t 0 a0 (a2 + x) a1 else cdK y z t 0 (a2 + x) a0 a1
theorem ksub_eq (a b : Nat) : Nat.sub a b = a - b := rfl
theorem kg1_eq {q n x b0 b1 b2 : Nat} : kg1 q n x b0 b1 b2 = if n ≤ b0 then q + (281474976710656 * b0 + (1152921504606846976 * n + 4722366482869645213696 * b2)) else q + (281474976710656 * n + (1152921504606846976 * b0 + 4722366482869645213696 * b2)) := by
  unfold kg1
  by_cases h : n ≤ b0
  · rw [if_pos h, Nat.ble_eq_true_of_le h]; rfl
  · rw [if_neg h, show Nat.ble n b0 = false from Bool.eq_false_iff.mpr fun z => h (Nat.le_of_ble_eq_true z)]; rfl
theorem kg2_eq {q n x b0 b1 b2 : Nat} : kg2 q n x b0 b1 b2 = if n ≤ b1 then q + (281474976710656 * b0 + (1152921504606846976 * b1 + 4722366482869645213696 * n)) else if n ≤ b0 then q + (281474976710656 * b0 + (1152921504606846976 * n + 4722366482869645213696 * b1)) else q + (281474976710656 * n + (1152921504606846976 * b0 + 4722366482869645213696 * b1)) := by
  unfold kg2
  by_cases h : n ≤ b1
  · rw [if_pos h, Nat.ble_eq_true_of_le h]; rfl
  · rw [if_neg h, show Nat.ble n b1 = false from Bool.eq_false_iff.mpr fun z => h (Nat.le_of_ble_eq_true z)]
    by_cases g : n ≤ b0
    · rw [if_pos g, Nat.ble_eq_true_of_le g]; rfl
    · rw [if_neg g, show Nat.ble n b0 = false from Bool.eq_false_iff.mpr fun z => g (Nat.le_of_ble_eq_true z)]; rfl
theorem kstp_cd {x y z t a0 a1 a2 : Nat} (hx : x < 4096) (hy : y < 4096) (hz : z < 4096) (ht : t < 4096) (h0 : a0 < 4096) (h1 : a1 < 4096) (h2 : a2 < 4096) (r : List Nat) :
    kstp (cdK x y z t a0 a1 a2) r = kst3 (cdK y z t 0 a0 a1 a2) (cdK y x z t a0 a1 a2) (cdK t x y z a0 a1 a2) a0 (cdK (x + a0) y z t a1 a2 0) a1 (cdK (x + a1) y z t a0 a2 0) a2 (cdK (x + a2) y z t a0 a1 0)
      (cdK 0 0 y (z + t) a0 a1 a2) (cdK (x + y) z t 0 a0 a1 a2) (cdK y z t 0 (a0 + x) a1 a2) (gd1 x y z t a0 a1 a2) (gd2 x y z t a0 a1 a2) (cdK x x y (z + t) a0 a1 a2) x r := by
  unfold kstp
  refine kfc_at (m := x + 4096 * y + 16777216 * z + 68719476736 * t) (by rw [kmod_eq]; unfold cdK; omega) ?_
  refine kfc_at (m := 281474976710656 * a0 + 1152921504606846976 * a1 + 4722366482869645213696 * a2) (by rw [ksub_eq]; unfold cdK; omega) ?_
  refine kfc_at (m := x) (by rw [kmod_eq]; omega) ?_
  refine kfc_at (m := y + 4096 * z + 16777216 * t) (by rw [kdiv_eq]; omega) ?_
  refine kfc_at (m := y) (by rw [kmod_eq]; omega) ?_
  refine kfc_at (m := t) (by rw [kdiv_eq]; omega) ?_
  refine kfc_at (m := a0) (by rw [kmod_eq, kdiv_eq]; omega) ?_
  refine kfc_at (m := a1) (by rw [kmod_eq, kdiv_eq]; omega) ?_
  refine kfc_at (m := a2) (by rw [kdiv_eq]; omega) ?_
  refine kfc_at (m := cdK y z t 0 a0 a1 a2) (by rw [kadd_eq]; unfold cdK; omega) ?_
  refine kfc_at (m := cdK 0 0 y (z + t) a0 a1 a2) (by simp only [kadd_eq, kmod_eq, kdiv_eq, kmul_eq]; rw [show (y + 4096 * z + 16777216 * t) / 4096 % 4096 = z by omega]; unfold cdK; omega) ?_
  unfold kst2
  refine kst3_eq rfl ?_ ?_ ?_ ?_ ?_ rfl ?_ ?_ ?_ ?_ ?_
  · simp only [kadd_eq, ksub_eq, kmul_eq]; unfold cdK; omega
  · simp only [kadd_eq, kmod_eq, kmul_eq]; rw [show (x + 4096 * y + 16777216 * z + 68719476736 * t) % 68719476736 = x + 4096 * y + 16777216 * z by omega]; unfold cdK; omega
  · simp only [kadd_eq, kmul_eq]; unfold cdK; omega
  · simp only [kadd_eq, kmul_eq]; unfold cdK; omega
  · simp only [kadd_eq, kmul_eq]; unfold cdK; omega
  · simp only [kadd_eq]; unfold cdK; omega
  · simp only [kadd_eq, kmul_eq]; unfold cdK; omega
  · rw [kg1_eq, kadd_eq]; unfold gd1 cdK; split <;> omega
  · rw [kg2_eq, kadd_eq]; unfold gd2 cdK; split
    · omega
    · split <;> omega
  · simp only [kadd_eq, kmul_eq]; unfold cdK; omega
/-! what is among the steps -/
section
variable {d e1 e2 b0 f0 b1 f1 b2 f2 u g1 g2 g3 g4 g5 x : Nat} {r : List Nat}
theorem kst3_a : d ∈ kst3 d e1 e2 b0 f0 b1 f1 b2 f2 u g1 g2 g3 g4 g5 x r ∧ e1 ∈ kst3 d e1 e2 b0 f0 b1 f1 b2 f2 u g1 g2 g3 g4 g5 x r ∧ e2 ∈ kst3 d e1 e2 b0 f0 b1 f1 b2 f2 u g1 g2 g3 g4 g5 x r := by
  unfold kst3
  simp only [kc1_eq]
  exact ⟨List.mem_cons_self .., List.mem_cons_of_mem _ (List.mem_cons_self ..), List.mem_cons_of_mem _ (List.mem_cons_of_mem _ (List.mem_cons_self ..))⟩
theorem kst3_f0 (h : b0 ≠ 0) : f0 ∈ kst3 d e1 e2 b0 f0 b1 f1 b2 f2 u g1 g2 g3 g4 g5 x r := by
  unfold kst3
  simp only [kc1_eq]
  exact List.mem_cons_of_mem _ (List.mem_cons_of_mem _ (List.mem_cons_of_mem _ (kif_new h)))
theorem kst3_f1 (h : b1 ≠ 0) : f1 ∈ kst3 d e1 e2 b0 f0 b1 f1 b2 f2 u g1 g2 g3 g4 g5 x r := by
  unfold kst3
  simp only [kc1_eq]
  exact List.mem_cons_of_mem _ (List.mem_cons_of_mem _ (List.mem_cons_of_mem _ (kif_sub (kif_new h))))
theorem kst3_f2 (h : b2 ≠ 0) : f2 ∈ kst3 d e1 e2 b0 f0 b1 f1 b2 f2 u g1 g2 g3 g4 g5 x r := by
  unfold kst3
  simp only [kc1_eq]
  exact List.mem_cons_of_mem _ (List.mem_cons_of_mem _ (List.mem_cons_of_mem _ (kif_sub (kif_sub (kif_new h)))))
theorem kst3_u (h : x = 0) : u ∈ kst3 d e1 e2 b0 f0 b1 f1 b2 f2 u g1 g2 g3 g4 g5 x r := by
  subst h
  unfold kst3
  simp only [kc1_eq]
  exact List.mem_cons_of_mem _ (List.mem_cons_of_mem _ (List.mem_cons_of_mem _ (kif_sub (kif_sub (kif_sub (List.mem_cons_self ..))))))
theorem kst3_g (h : x ≠ 0) : (g1 ∈ kst3 d e1 e2 b0 f0 b1 f1 b2 f2 u g1 g2 g3 g4 g5 x r ∧ g2 ∈ kst3 d e1 e2 b0 f0 b1 f1 b2 f2 u g1 g2 g3 g4 g5 x r ∧ g3 ∈ kst3 d e1 e2 b0 f0 b1 f1 b2 f2 u g1 g2 g3 g4 g5 x r) ∧ (g4 ∈ kst3 d e1 e2 b0 f0 b1 f1 b2 f2 u g1 g2 g3 g4 g5 x r ∧ g5 ∈ kst3 d e1 e2 b0 f0 b1 f1 b2 f2 u g1 g2 g3 g4 g5 x r ∧ ∀ i, i ≤ x → u + (4096 * i + (x - i)) ∈ kst3 d e1 e2 b0 f0 b1 f1 b2 f2 u g1 g2 g3 g4 g5 x r) := by
  cases x with
  | zero => exact absurd rfl h
  | succ x =>
    have key : ∀ z, z ∈ g1 :: g2 :: g3 :: g4 :: g5 :: kspl u (x + 1) r → z ∈ kst3 d e1 e2 b0 f0 b1 f1 b2 f2 u g1 g2 g3 g4 g5 (x + 1) r := fun z hz => by
      unfold kst3
      simp only [kc1_eq]
      exact List.mem_cons_of_mem _ (List.mem_cons_of_mem _ (List.mem_cons_of_mem _ (kif_sub (kif_sub (kif_sub hz)))))
    refine ⟨⟨key _ (List.mem_cons_self ..), key _ (List.mem_cons_of_mem _ (List.mem_cons_self ..)), key _ (List.mem_cons_of_mem _ (List.mem_cons_of_mem _ (List.mem_cons_self ..)))⟩, key _ (List.mem_cons_of_mem _ (List.mem_cons_of_mem _ (List.mem_cons_of_mem _ (List.mem_cons_self ..)))), key _ (List.mem_cons_of_mem _ (List.mem_cons_of_mem _ (List.mem_cons_of_mem _ (List.mem_cons_of_mem _ (List.mem_cons_self ..))))), fun i hi => ?_⟩
    exact key _ (List.mem_cons_of_mem _ (List.mem_cons_of_mem _ (List.mem_cons_of_mem _ (List.mem_cons_of_mem _ (List.mem_cons_of_mem _ (kspA_new (u := u) (x := x + 1) (r := r) hi))))))
end
/-- the boxes in any order -/
def Pm (a0 a1 a2 b0 b1 b2 : Nat) : Prop := (a0 = b0 ∧ a1 = b1 ∧ a2 = b2) ∨ (a0 = b0 ∧ a1 = b2 ∧ a2 = b1) ∨ (a0 = b1 ∧ a1 = b0 ∧ a2 = b2) ∨ (a0 = b1 ∧ a1 = b2 ∧ a2 = b0) ∨ (a0 = b2 ∧ a1 = b0 ∧ a2 = b1) ∨ (a0 = b2 ∧ a1 = b1 ∧ a2 = b0)
theorem pm_1 {a0 a1 a2 b0 b1 b2 : Nat} (h : Pm a0 a1 a2 b0 b1 b2) : Pm a0 a1 a2 b1 b0 b2 := by
  unfold Pm at h ⊢
  rcases h with ⟨rfl, rfl, rfl⟩ | ⟨rfl, rfl, rfl⟩ | ⟨rfl, rfl, rfl⟩ | ⟨rfl, rfl, rfl⟩ | ⟨rfl, rfl, rfl⟩ | ⟨rfl, rfl, rfl⟩ <;> simp
theorem pm_2 {a0 a1 a2 b0 b1 b2 : Nat} (h : Pm a0 a1 a2 b0 b1 b2) : Pm a0 a1 a2 b2 b1 b0 := by
  unfold Pm at h ⊢
  rcases h with ⟨rfl, rfl, rfl⟩ | ⟨rfl, rfl, rfl⟩ | ⟨rfl, rfl, rfl⟩ | ⟨rfl, rfl, rfl⟩ | ⟨rfl, rfl, rfl⟩ | ⟨rfl, rfl, rfl⟩ <;> simp
theorem pm_3 {a0 a1 a2 b0 b1 b2 : Nat} (h : Pm a0 a1 a2 b0 b1 b2) : Pm a1 a0 a2 b0 b1 b2 := by
  unfold Pm at h ⊢
  rcases h with ⟨rfl, rfl, rfl⟩ | ⟨rfl, rfl, rfl⟩ | ⟨rfl, rfl, rfl⟩ | ⟨rfl, rfl, rfl⟩ | ⟨rfl, rfl, rfl⟩ | ⟨rfl, rfl, rfl⟩ <;> simp
theorem pm_4 {a0 a1 a2 b0 b1 b2 : Nat} (h : Pm a0 a1 a2 b0 b1 b2) : Pm a0 a2 a1 b0 b1 b2 := by
  unfold Pm at h ⊢
  rcases h with ⟨rfl, rfl, rfl⟩ | ⟨rfl, rfl, rfl⟩ | ⟨rfl, rfl, rfl⟩ | ⟨rfl, rfl, rfl⟩ | ⟨rfl, rfl, rfl⟩ | ⟨rfl, rfl, rfl⟩ <;> simp
theorem pm_sum {a0 a1 a2 b0 b1 b2 : Nat} (h : Pm a0 a1 a2 b0 b1 b2) : a0 + a1 + a2 = b0 + b1 + b2 := by
  unfold Pm at h
  rcases h with ⟨rfl, rfl, rfl⟩ | ⟨rfl, rfl, rfl⟩ | ⟨rfl, rfl, rfl⟩ | ⟨rfl, rfl, rfl⟩ | ⟨rfl, rfl, rfl⟩ | ⟨rfl, rfl, rfl⟩ <;> omega
def Cd (x y z t b0 b1 b2 c : Nat) : Prop := ∃ a0 a1 a2, a1 ≤ a0 ∧ a2 ≤ a1 ∧ Pm a0 a1 a2 b0 b1 b2 ∧ c = cdK x y z t a0 a1 a2
section
variable {x y z t a0 a1 a2 b0 b1 b2 : Nat}
theorem cd_put (s1 : a1 ≤ a0) (s2 : a2 ≤ a1) (p : Pm a0 a1 a2 b0 b1 b2) (hx : x < 4096) (hy : y < 4096) (hz : z < 4096) (ht : t < 4096) (h0 : a0 < 4096) (h1 : a1 < 4096) (h2 : a2 < 4096) :
    ∃ c', Cd (x + b0) y z t 0 b1 b2 c' ∧ (c' = cdK x y z t a0 a1 a2 ∨ Kst (cdK x y z t a0 a1 a2) c') := by
  have k := kstp_cd hx hy hz ht h0 h1 h2
  by_cases e : b0 = 0
  · subst e
    exact ⟨_, ⟨a0, a1, a2, s1, s2, p, rfl⟩, .inl rfl⟩
  · have q : (a0 = b0 ∧ Pm a1 a2 0 0 b1 b2) ∨ (a1 = b0 ∧ Pm a0 a2 0 0 b1 b2) ∨ (a2 = b0 ∧ Pm a0 a1 0 0 b1 b2) := by
      unfold Pm at p ⊢
      rcases p with ⟨rfl, rfl, rfl⟩ | ⟨rfl, rfl, rfl⟩ | ⟨rfl, rfl, rfl⟩ | ⟨rfl, rfl, rfl⟩ | ⟨rfl, rfl, rfl⟩ | ⟨rfl, rfl, rfl⟩ <;> simp
    rcases q with ⟨rfl, q⟩ | ⟨rfl, q⟩ | ⟨rfl, q⟩
    · exact ⟨_, ⟨a1, a2, 0, s2, Nat.zero_le _, q, rfl⟩, .inr fun r => by rw [k]; exact kst3_f0 e⟩
    · exact ⟨_, ⟨a0, a2, 0, by omega, Nat.zero_le _, q, rfl⟩, .inr fun r => by rw [k]; exact kst3_f1 e⟩
    · exact ⟨_, ⟨a0, a1, 0, s1, Nat.zero_le _, q, rfl⟩, .inr fun r => by rw [k]; exact kst3_f2 e⟩
theorem cd_get (s1 : a1 ≤ a0) (s2 : a2 ≤ a1) (p : Pm a0 a1 a2 b0 b1 b2) (hx : x < 4096) (hy : y < 4096) (hz : z < 4096) (ht : t < 4096) (h0 : a0 < 4096) (h1 : a1 < 4096) (h2 : a2 < 4096) :
    ∃ c', Cd y z t 0 (x + b0) b1 b2 c' ∧ Kst (cdK x y z t a0 a1 a2) c' := by
  have k := kstp_cd hx hy hz ht h0 h1 h2
  by_cases e : x = 0
  · subst e
    exact ⟨_, ⟨a0, a1, a2, s1, s2, by rw [Nat.zero_add]; exact p, rfl⟩, fun r => by rw [k]; exact kst3_a.1⟩
  · have q : (a0 = b0 ∧ Pm (a0 + x) a1 a2 (x + b0) b1 b2) ∨ (a1 = b0 ∧ Pm a0 (a1 + x) a2 (x + b0) b1 b2) ∨ (a2 = b0 ∧ Pm a0 a1 (a2 + x) (x + b0) b1 b2) := by
      unfold Pm at p ⊢
      rcases p with ⟨rfl, rfl, rfl⟩ | ⟨rfl, rfl, rfl⟩ | ⟨rfl, rfl, rfl⟩ | ⟨rfl, rfl, rfl⟩ | ⟨rfl, rfl, rfl⟩ | ⟨rfl, rfl, rfl⟩ <;> simp [Nat.add_comm]
    have g := fun r => (kst3_g (d := cdK y z t 0 a0 a1 a2) (e1 := cdK y x z t a0 a1 a2) (e2 := cdK t x y z a0 a1 a2) (b0 := a0) (f0 := cdK (x + a0) y z t a1 a2 0) (b1 := a1) (f1 := cdK (x + a1) y z t a0 a2 0) (b2 := a2) (f2 := cdK (x + a2) y z t a0 a1 0)
      (u := cdK 0 0 y (z + t) a0 a1 a2) (g1 := cdK (x + y) z t 0 a0 a1 a2) (g2 := cdK y z t 0 (a0 + x) a1 a2) (g3 := gd1 x y z t a0 a1 a2) (g4 := gd2 x y z t a0 a1 a2) (g5 := cdK x x y (z + t) a0 a1 a2) (r := r) e)
    rcases q with ⟨_, q⟩ | ⟨_, q⟩ | ⟨_, q⟩
    · exact ⟨_, ⟨a0 + x, a1, a2, by omega, s2, q, rfl⟩, fun r => by rw [k]; exact (g r).1.2.1⟩
    · refine ⟨gd1 x y z t a0 a1 a2, ?_, fun r => by rw [k]; exact (g r).1.2.2⟩
      unfold gd1
      split
      · exact ⟨a0, a1 + x, a2, by omega, by omega, q, rfl⟩
      · exact ⟨a1 + x, a0, a2, by omega, by omega, pm_3 q, rfl⟩
    · refine ⟨gd2 x y z t a0 a1 a2, ?_, fun r => by rw [k]; exact (g r).2.1⟩
      unfold gd2
      split
      · exact ⟨a0, a1, a2 + x, by omega, by omega, q, rfl⟩
      · split
        · exact ⟨a0, a2 + x, a1, by omega, by omega, pm_4 q, rfl⟩
        · exact ⟨a2 + x, a0, a1, by omega, by omega, pm_3 (pm_4 q), rfl⟩
end
theorem cd_1 {x y z t b0 b1 b2 c : Nat} (h : Cd x y z t b0 b1 b2 c) : Cd x y z t b1 b0 b2 c := by
  obtain ⟨a0, a1, a2, s1, s2, p, e⟩ := h
  exact ⟨a0, a1, a2, s1, s2, pm_1 p, e⟩
theorem cd_2 {x y z t b0 b1 b2 c : Nat} (h : Cd x y z t b0 b1 b2 c) : Cd x y z t b2 b1 b0 c := by
  obtain ⟨a0, a1, a2, s1, s2, p, e⟩ := h
  exact ⟨a0, a1, a2, s1, s2, pm_2 p, e⟩
def Cn (W : W7) (c : Nat) : Prop := Cd W.x W.y W.z W.t (W.b 0) (W.b 1) (W.b 2) c
def W7.sm (W : W7) : Nat := W.x + W.y + W.z + W.t + W.b 0 + W.b 1 + W.b 2
theorem cn_step {W W' : W7} {c : Nat} (h : Cn W c) (s : St W W') (hs : W.sm < 4096) : ∃ c', Cn W' c' ∧ (c' = c ∨ Kst c c') := by
  obtain ⟨a0, a1, a2, s1, s2, p, rfl⟩ := h
  unfold W7.sm at hs
  have hx : W.x < 4096 := by omega
  have hy : W.y < 4096 := by omega
  have hz : W.z < 4096 := by omega
  have ht : W.t < 4096 := by omega
  have hp : a0 + a1 + a2 = W.b 0 + W.b 1 + W.b 2 := pm_sum p
  have h0 : a0 < 4096 := by omega
  have h1 : a1 < 4096 := by omega
  have h2 : a2 < 4096 := by omega
  have k := kstp_cd hx hy hz ht h0 h1 h2
  cases s with
  | same => exact ⟨_, ⟨a0, a1, a2, s1, s2, p, rfl⟩, .inl rfl⟩
  | fig => exact ⟨_, ⟨a0, a1, a2, s1, s2, p, rfl⟩, .inr fun r => by rw [k]; exact kst3_a.1⟩
  | swap => exact ⟨_, ⟨a0, a1, a2, s1, s2, p, rfl⟩, .inr fun r => by rw [k]; exact kst3_a.2.1⟩
  | roll => exact ⟨_, ⟨a0, a1, a2, s1, s2, p, rfl⟩, .inr fun r => by rw [k]; exact kst3_a.2.2⟩
  | enter =>
    refine ⟨_, ⟨a0, a1, a2, s1, s2, p, rfl⟩, .inr fun r => ?_⟩
    rw [k]
    by_cases e : W.x = 0
    · show cdK (W.x + W.y) W.z W.t 0 a0 a1 a2 ∈ _
      rw [show W.x + W.y = W.y by omega]
      exact kst3_a.1
    · exact (kst3_g e).1.1
  | times =>
    refine ⟨_, ⟨a0, a1, a2, s1, s2, p, rfl⟩, .inr fun r => ?_⟩
    rw [k]
    by_cases e : W.x = 0
    · rw [e]
      exact kst3_u rfl
    · exact (kst3_g e).2.2.1
  | plus i hi =>
    refine ⟨_, ⟨a0, a1, a2, s1, s2, p, rfl⟩, .inr fun r => ?_⟩
    rw [k]
    by_cases e : W.x = 0
    · have ei : i = 0 := by omega
      rw [e, ei]
      exact kst3_u rfl
    · have q := (kst3_g (d := cdK W.y W.z W.t 0 a0 a1 a2) (e1 := cdK W.y W.x W.z W.t a0 a1 a2) (e2 := cdK W.t W.x W.y W.z a0 a1 a2) (b0 := a0) (f0 := cdK (W.x + a0) W.y W.z W.t a1 a2 0) (b1 := a1) (f1 := cdK (W.x + a1) W.y W.z W.t a0 a2 0) (b2 := a2) (f2 := cdK (W.x + a2) W.y W.z W.t a0 a1 0)
        (u := cdK 0 0 W.y (W.z + W.t) a0 a1 a2) (g1 := cdK (W.x + W.y) W.z W.t 0 a0 a1 a2) (g2 := cdK W.y W.z W.t 0 (a0 + W.x) a1 a2) (g3 := gd1 W.x W.y W.z W.t a0 a1 a2) (g4 := gd2 W.x W.y W.z W.t a0 a1 a2) (g5 := cdK W.x W.x W.y (W.z + W.t) a0 a1 a2) (r := r) e).2.2.2 i hi
      have : cdK (W.x - i) i W.y (W.z + W.t) a0 a1 a2 = cdK 0 0 W.y (W.z + W.t) a0 a1 a2 + (4096 * i + (W.x - i)) := by unfold cdK; omega
      show cdK (W.x - i) i W.y (W.z + W.t) a0 a1 a2 ∈ _
      rw [this]
      exact q
  | put k' =>
    rcases fin3 k' with rfl | rfl | rfl
    · exact cd_put s1 s2 p hx hy hz ht h0 h1 h2
    · obtain ⟨c', q1, q2⟩ := cd_put s1 s2 (pm_1 p) hx hy hz ht h0 h1 h2
      exact ⟨c', cd_1 q1, q2⟩
    · obtain ⟨c', q1, q2⟩ := cd_put s1 s2 (pm_2 p) hx hy hz ht h0 h1 h2
      exact ⟨c', cd_2 q1, q2⟩
  | get k' =>
    rcases fin3 k' with rfl | rfl | rfl
    · obtain ⟨c', q1, q2⟩ := cd_get s1 s2 p hx hy hz ht h0 h1 h2
      exact ⟨c', q1, .inr q2⟩
    · obtain ⟨c', q1, q2⟩ := cd_get s1 s2 (pm_1 p) hx hy hz ht h0 h1 h2
      exact ⟨c', cd_1 q1, .inr q2⟩
    · obtain ⟨c', q1, q2⟩ := cd_get s1 s2 (pm_2 p) hx hy hz ht h0 h1 h2
      exact ⟨c', cd_2 q1, .inr q2⟩
theorem sm_step {W W' : W7} (s : St W W') : W'.sm ≤ 2 * W.sm := by
  unfold W7.sm
  cases s with
  | put k => rcases fin3 k with rfl | rfl | rfl <;> simp <;> omega
  | get k => rcases fin3 k with rfl | rfl | rfl <;> simp <;> omega
  | _ => first | omega | (dsimp only; omega)
theorem sm_rch : ∀ {n : Nat} {W W' : W7}, Rch n W W' → W'.sm ≤ 2 ^ n * W.sm
  | 0, W, W', h => by cases h; omega
  | n + 1, W, W', ⟨W1, h, s⟩ => by
    have h1 := sm_rch h
    have h2 := sm_step s
    rw [Nat.pow_succ, Nat.mul_comm _ 2, Nat.mul_assoc]
    omega
theorem cn_rch {c : Nat} : ∀ {n : Nat} {W W' : W7}, Cn W c → Rch n W W' → 2 ^ n * W.sm ≤ 4096 → ∃ c', Cn W' c' ∧ Krc n c c'
  | 0, W, W', h, r, _ => by cases r; exact ⟨c, h, .nil c⟩
  | n + 1, W, W', h, ⟨W1, r, s⟩, hs => by
    rw [Nat.pow_succ, Nat.mul_comm _ 2, Nat.mul_assoc] at hs
    obtain ⟨c1, h1, k1⟩ := cn_rch h r (by omega)
    by_cases z : W1.sm = 0
    · obtain ⟨c', h2, q⟩ := cn_step h1 s (by omega)
      rcases q with rfl | q
      · exact ⟨c', h2, .same k1⟩
      · exact ⟨c', h2, .step k1 q⟩
    · have := sm_rch r
      obtain ⟨c', h2, q⟩ := cn_step h1 s (by omega)
      rcases q with rfl | q
      · exact ⟨c', h2, .same k1⟩
      · exact ⟨c', h2, .step k1 q⟩
/-! all orders -/
theorem kpr3_sub {c p1 p2 p3 p4 p5 a b e : Nat} {ih : List Nat} {z : Nat} (h : z ∈ ih) : z ∈ kpr3 c p1 p2 p3 p4 p5 a b e ih := by
  unfold kpr3
  simp only [kc1_eq]
  refine List.mem_cons_of_mem _ ?_
  cases Nat.beq a b <;> cases Nat.beq b e
  · exact List.mem_cons_of_mem _ (List.mem_cons_of_mem _ (List.mem_cons_of_mem _ (List.mem_cons_of_mem _ (List.mem_cons_of_mem _ h))))
  · exact List.mem_cons_of_mem _ (List.mem_cons_of_mem _ h)
  · exact List.mem_cons_of_mem _ (List.mem_cons_of_mem _ h)
  · exact h
theorem kpr3_all {c p1 p2 p3 p4 p5 a b e : Nat} {ih : List Nat} : c ∈ kpr3 c p1 p2 p3 p4 p5 a b e ih ∧ (a ≠ b → p2 ∈ kpr3 c p1 p2 p3 p4 p5 a b e ih ∧ p5 ∈ kpr3 c p1 p2 p3 p4 p5 a b e ih) ∧ (b ≠ e → p1 ∈ kpr3 c p1 p2 p3 p4 p5 a b e ih ∨ (a ≠ b ∧ False)) ∧ (a = b → b ≠ e → p5 ∈ kpr3 c p1 p2 p3 p4 p5 a b e ih) ∧ (a ≠ b → b ≠ e → p3 ∈ kpr3 c p1 p2 p3 p4 p5 a b e ih ∧ p4 ∈ kpr3 c p1 p2 p3 p4 p5 a b e ih) := by
  unfold kpr3
  simp only [kc1_eq]
  refine ⟨List.mem_cons_self .., fun h => ?_, fun h => ?_, fun h g => ?_, fun h g => ?_⟩
  · rw [show Nat.beq a b = false from Bool.eq_false_iff.mpr fun z => h (Nat.eq_of_beq_eq_true z)]
    cases Nat.beq b e <;> simp
  · rw [show Nat.beq b e = false from Bool.eq_false_iff.mpr fun z => h (Nat.eq_of_beq_eq_true z)]
    cases Nat.beq a b <;> simp
  · rw [show Nat.beq b e = false from Bool.eq_false_iff.mpr fun z => g (Nat.eq_of_beq_eq_true z)]
    cases Nat.beq a b <;> simp
  · rw [show Nat.beq a b = false from Bool.eq_false_iff.mpr fun z => h (Nat.eq_of_beq_eq_true z), show Nat.beq b e = false from Bool.eq_false_iff.mpr fun z => g (Nat.eq_of_beq_eq_true z)]
    simp
theorem kpr1_cd {x y z t a0 a1 a2 : Nat} (hx : x < 4096) (hy : y < 4096) (hz : z < 4096) (ht : t < 4096) (h0 : a0 < 4096) (h1 : a1 < 4096) (ih : List Nat) :
    kpr1 (cdK x y z t a0 a1 a2) ih = kpr3 (cdK x y z t a0 a1 a2) (cdK x y z t a0 a2 a1) (cdK x y z t a1 a0 a2) (cdK x y z t a1 a2 a0) (cdK x y z t a2 a0 a1) (cdK x y z t a2 a1 a0) a0 a1 a2 ih := by
  unfold kpr1
  refine kfc_at (m := x + 4096 * y + 16777216 * z + 68719476736 * t) (by rw [kmod_eq]; unfold cdK; omega) ?_
  refine kfc_at (m := a0 + 4096 * a1 + 16777216 * a2) (by rw [kdiv_eq]; unfold cdK; omega) ?_
  refine kfc_at (m := a0) (by rw [kmod_eq]; omega) ?_
  refine kfc_at (m := a1) (by rw [kmod_eq, kdiv_eq]; omega) ?_
  refine kfc_at (m := a2) (by rw [kdiv_eq]; omega) ?_
  unfold kpr2
  congr 1 <;> (simp only [kadd_eq, kmul_eq]; unfold cdK; omega)
theorem mem_kprm : ∀ {l : List Nat} {x y z t a0 a1 a2 b0 b1 b2 : Nat}, cdK x y z t a0 a1 a2 ∈ l → Pm a0 a1 a2 b0 b1 b2 → x < 4096 → y < 4096 → z < 4096 → t < 4096 → a0 < 4096 → a1 < 4096 → cdK x y z t b0 b1 b2 ∈ kprm l
  | c :: l, x, y, z, t, a0, a1, a2, b0, b1, b2, h, p, hx, hy, hz, ht, h0, h1 => by
    show _ ∈ kpr1 c (kprm l)
    rcases List.mem_cons.mp h with rfl | h
    · rw [kpr1_cd hx hy hz ht h0 h1]
      obtain ⟨k0, k1, k2, k3, k4⟩ := kpr3_all (c := cdK x y z t a0 a1 a2) (p1 := cdK x y z t a0 a2 a1) (p2 := cdK x y z t a1 a0 a2) (p3 := cdK x y z t a1 a2 a0) (p4 := cdK x y z t a2 a0 a1) (p5 := cdK x y z t a2 a1 a0) (a := a0) (b := a1) (e := a2) (ih := kprm l)
      by_cases e1 : a0 = a1 <;> by_cases e2 : a1 = a2
      · subst e1; subst e2
        unfold Pm at p
        rcases p with ⟨rfl, rfl, rfl⟩ | ⟨rfl, rfl, rfl⟩ | ⟨rfl, rfl, rfl⟩ | ⟨rfl, rfl, rfl⟩ | ⟨rfl, rfl, rfl⟩ | ⟨rfl, rfl, rfl⟩ <;> exact k0
      · subst e1
        have q1 := (k2 e2).resolve_right (fun z => z.2)
        have q2 := k3 rfl e2
        unfold Pm at p
        rcases p with ⟨rfl, rfl, rfl⟩ | ⟨rfl, rfl, rfl⟩ | ⟨rfl, rfl, rfl⟩ | ⟨rfl, rfl, rfl⟩ | ⟨rfl, rfl, rfl⟩ | ⟨rfl, rfl, rfl⟩ <;> first | exact k0 | exact q1 | exact q2
      · subst e2
        have q := k1 e1
        unfold Pm at p
        rcases p with ⟨rfl, rfl, rfl⟩ | ⟨rfl, rfl, rfl⟩ | ⟨rfl, rfl, rfl⟩ | ⟨rfl, rfl, rfl⟩ | ⟨rfl, rfl, rfl⟩ | ⟨rfl, rfl, rfl⟩ <;> first | exact k0 | exact q.1 | exact q.2
      · have q := k1 e1
        have q1 := (k2 e2).resolve_right (fun z => z.2)
        have q2 := k4 e1 e2
        unfold Pm at p
        rcases p with ⟨rfl, rfl, rfl⟩ | ⟨rfl, rfl, rfl⟩ | ⟨rfl, rfl, rfl⟩ | ⟨rfl, rfl, rfl⟩ | ⟨rfl, rfl, rfl⟩ | ⟨rfl, rfl, rfl⟩
        · exact k0
        · exact q1
        · exact q.1
        · exact q2.2
        · exact q2.1
        · exact q.2
    · exact (show ∀ {ih : List Nat} {w : Nat}, w ∈ ih → w ∈ kpr1 c ih from fun h => kfc_p (_ ∈ ·) fun _ => kfc_p (_ ∈ ·) fun _ => kfc_p (_ ∈ ·) fun _ => kfc_p (_ ∈ ·) fun _ => kfc_p (_ ∈ ·) fun _ => kpr3_sub h) (mem_kprm h p hx hy hz ht h0 h1)
/-! codes whose hashes are apart -/
def khN (c : Nat) : Nat := endN [c % 4096, c / 4096 % 4096, c / 16777216 % 4096, c / 68719476736 % 4096, c / 281474976710656 % 4096, c / 1152921504606846976 % 4096, c / 4722366482869645213696 % 4096]
theorem krnd_eq {α : Type} (acc x : Nat) (k : Nat → α) : krnd acc x k = k (rndN acc x) := by
  unfold krnd rndN
  rw [kfc_eq, kfc_eq]
  simp only [kmod_eq, kdiv_eq, kadd_eq, kmul_eq]
theorem kx_eq : (7 ^^^ (2870177450012600261 ^^^ 3527539) : Nat) = 2870177450013471921 := by decide
theorem krnd_at {α : Type} {acc x x' : Nat} {k : Nat → α} {r : α} (h : x = x') (hk : k (rndN acc x') = r) : krnd acc x k = r := by
  rw [krnd_eq, h, hk]
theorem fold7 {f : Nat → Nat → Nat} {s a b c d e p q : Nat} : [a, b, c, d, e, p, q].foldl f s = f (f (f (f (f (f (f s a) b) c) d) e) p) q := rfl
theorem khN_7 (c : Nat) : khN c = (rndN (rndN (rndN (rndN (rndN (rndN (rndN 2870177450012600261 (c % 4096)) (c / 4096 % 4096)) (c / 16777216 % 4096)) (c / 68719476736 % 4096)) (c / 281474976710656 % 4096)) (c / 1152921504606846976 % 4096)) (c / 4722366482869645213696 % 4096) + 2870177450013471921) % 18446744073709551616 := by
  unfold khN endN
  rw [fold7, kx_eq]
theorem kfin {α : Type} (c a : Nat) (k : Nat → α) (h : khN c = (a + 2870177450013471921) % 18446744073709551616) : kfc (Nat.mod (Nat.add a 2870177450013471921) 18446744073709551616) k = k (khN c) := by
  rw [kfc_eq, kmod_eq, kadd_eq, h]
theorem khsh_eq {α : Type} (c : Nat) (k : Nat → α) : khsh c k = k (khN c) := by
  unfold khsh
  refine krnd_at (x' := c % 4096) (kmod_eq _ _) ?_
  refine krnd_at (x' := c / 4096 % 4096) (by rw [kmod_eq, kdiv_eq]) ?_
  refine krnd_at (x' := c / 16777216 % 4096) (by rw [kmod_eq, kdiv_eq]) ?_
  refine krnd_at (x' := c / 68719476736 % 4096) (by rw [kmod_eq, kdiv_eq]) ?_
  refine krnd_at (x' := c / 281474976710656 % 4096) (by rw [kmod_eq, kdiv_eq]) ?_
  refine krnd_at (x' := c / 1152921504606846976 % 4096) (by rw [kmod_eq, kdiv_eq]) ?_
  refine krnd_at (x' := c / 4722366482869645213696 % 4096) (by rw [kmod_eq, kdiv_eq]) ?_
  exact kfin c _ k (khN_7 c)
theorem khm_cons (x : Nat) (l : List Nat) : khm (x :: l) = (khN x * 19342813113834066795298816 + x) :: khm l := by
  have e : khm (x :: l) = khsh x fun h => kc1 (Nat.add (Nat.mul h 19342813113834066795298816) x) (khm l) := rfl
  rw [e, khsh_eq, kc1_eq, kadd_eq, kmul_eq]
theorem mem_khm : ∀ {l : List Nat} {c : Nat}, c ∈ l → khN c * 19342813113834066795298816 + c ∈ khm l
  | x :: l, c, h => by
    rw [khm_cons]
    rcases List.mem_cons.mp h with rfl | h
    · exact List.mem_cons_self ..
    · exact List.mem_cons_of_mem _ (mem_khm h)
theorem kinc_cons {m : Nat} {l : List Nat} {p : Nat} (h : kinc (m :: l) p = true) : p < m / 19342813113834066795298816 ∧ kinc l (m / 19342813113834066795298816) = true := by
  have e : kinc (m :: l) p = Bool.rec false (kinc l (m / 19342813113834066795298816)) (Nat.ble (Nat.succ p) (m / 19342813113834066795298816)) := rfl
  rw [e] at h
  cases q : Nat.ble (Nat.succ p) (m / 19342813113834066795298816) with
  | false => rw [q] at h; cases h
  | true => rw [q] at h; exact ⟨Nat.le_of_ble_eq_true q, h⟩
theorem kinc_gt : ∀ {l : List Nat} {p : Nat}, kinc l p = true → (p < 18446744073709551615 ∧ ∀ m ∈ l, p < m / 19342813113834066795298816 ∧ m / 19342813113834066795298816 < 18446744073709551615)
  | [], p, h => ⟨Nat.le_of_ble_eq_true h, fun _ h => nomatch h⟩
  | m :: l, p, h => by
    obtain ⟨h1, h2⟩ := kinc_cons h
    obtain ⟨h3, h4⟩ := kinc_gt h2
    refine ⟨Nat.lt_trans h1 h3, fun z hz => ?_⟩
    rcases List.mem_cons.mp hz with rfl | hz
    · exact ⟨h1, h3⟩
    · exact ⟨Nat.lt_trans h1 (h4 z hz).1, (h4 z hz).2⟩
theorem kinc_inj : ∀ {l : List Nat} {p : Nat}, kinc l p = true → ∀ m ∈ l, ∀ n ∈ l, m / 19342813113834066795298816 = n / 19342813113834066795298816 → m = n
  | a :: l, p, h, m, hm, n, hn, e => by
    obtain ⟨h1, h2⟩ := kinc_cons h
    have g := (kinc_gt h2).2
    rcases List.mem_cons.mp hm with hm | hm
    · rcases List.mem_cons.mp hn with hn | hn
      · rw [hm, hn]
      · rw [hm] at e
        exact absurd e (Nat.ne_of_lt (g n hn).1)
    · rcases List.mem_cons.mp hn with hn | hn
      · rw [hn] at e
        exact absurd e.symm (Nat.ne_of_lt (g m hm).1)
      · exact kinc_inj h2 m hm n hn e
theorem kq {h c : Nat} (lc : c < 19342813113834066795298816) : (h * 19342813113834066795298816 + c) / 19342813113834066795298816 = h := by omega
theorem kapt_inj {l : List Nat} (h : kapt l = true) {c d : Nat} (hc : c ∈ l) (hd : d ∈ l) (lc : c < 19342813113834066795298816) (ld : d < 19342813113834066795298816) : khN c ≠ 18446744073709551615 ∧ (khN c = khN d → c = d) := by
  have mc := mem_ksort (mem_khm hc)
  have md := mem_ksort (mem_khm hd)
  have qc := kq (h := khN c) lc
  have qd := kq (h := khN d) ld
  refine ⟨fun z => ?_, fun e => ?_⟩
  · have := ((kinc_gt h).2 _ mc).2
    rw [qc] at this
    exact absurd z (Nat.ne_of_lt this)
  · have := kinc_inj h _ mc _ md (by rw [qc, qd, e])
    rw [e] at this
    exact Nat.add_left_cancel this
theorem khN_cd {x y z t a0 a1 a2 : Nat} (hx : x < 4096) (hy : y < 4096) (hz : z < 4096) (ht : t < 4096) (h0 : a0 < 4096) (h1 : a1 < 4096) (h2 : a2 < 4096) : khN (cdK x y z t a0 a1 a2) = endN [x, y, z, t, a0, a1, a2] := by
  unfold khN
  rw [show cdK x y z t a0 a1 a2 % 4096 = x by unfold cdK; omega, show cdK x y z t a0 a1 a2 / 4096 % 4096 = y by unfold cdK; omega, show cdK x y z t a0 a1 a2 / 16777216 % 4096 = z by unfold cdK; omega, show cdK x y z t a0 a1 a2 / 68719476736 % 4096 = t by unfold cdK; omega,
    show cdK x y z t a0 a1 a2 / 281474976710656 % 4096 = a0 by unfold cdK; omega, show cdK x y z t a0 a1 a2 / 1152921504606846976 % 4096 = a1 by unfold cdK; omega, show cdK x y z t a0 a1 a2 / 4722366482869645213696 % 4096 = a2 by unfold cdK; omega]
def W7.cd (W : W7) : Nat := cdK W.x W.y W.z W.t (W.b 0) (W.b 1) (W.b 2)
def W7.ns (W : W7) : List Nat := [W.x, W.y, W.z, W.t, W.b 0, W.b 1, W.b 2]
def W7.k (W : W7) : List Int := W.ns.map fun n => ((n : Nat) : Int)
theorem cd_inj {x y z t a0 a1 a2 x' y' z' t' a0' a1' a2' : Nat} (hx : x < 4096) (hy : y < 4096) (hz : z < 4096) (ht : t < 4096) (h0 : a0 < 4096) (h1 : a1 < 4096) (hx' : x' < 4096) (hy' : y' < 4096) (hz' : z' < 4096) (ht' : t' < 4096) (h0' : a0' < 4096) (h1' : a1' < 4096)
    (e : cdK x y z t a0 a1 a2 = cdK x' y' z' t' a0' a1' a2') : x = x' ∧ y = y' ∧ z = z' ∧ t = t' ∧ a0 = a0' ∧ a1 = a1' ∧ a2 = a2' := by
  unfold cdK at e
  refine ⟨?_, ?_, ?_, ?_, ?_, ?_, ?_⟩ <;> omega
/-- the list that the kernel counted holds the code of every monomial that can be reached -/
theorem code_mem {S : List Nat} {c : Nat} {n : Nat} {W W' : W7} (hS : ∀ d, Krc n c d → d ∈ S) (h : Cn W c) (r : Rch n W W') (hs : 2 ^ n * W.sm ≤ 4095) : W'.cd ∈ kprm S := by
  obtain ⟨c', ⟨a0, a1, a2, s1, s2, p, e⟩, k⟩ := cn_rch h r (by omega)
  have b := sm_rch r
  unfold W7.sm at b
  have := pm_sum p
  unfold W7.sm at hs
  refine mem_kprm (by rw [← e]; exact hS c' k) p ?_ ?_ ?_ ?_ ?_ ?_ <;> omega
theorem hash_code {l : List Nat} (h : kapt l = true) {W V : W7} (hw : W.cd ∈ l) (hv : V.cd ∈ l) (sw : W.sm < 4096) (sv : V.sm < 4096) (e : L2.keyHashI W.k = L2.keyHashI V.k) : W.k = V.k := by
  unfold W7.sm at sw sv
  have lw : W.cd < 19342813113834066795298816 := by unfold W7.cd cdK; omega
  have lv : V.cd < 19342813113834066795298816 := by unfold W7.cd cdK; omega
  obtain ⟨n1, i1⟩ := kapt_inj h hw hv lw lv
  obtain ⟨n2, _⟩ := kapt_inj h hv hw lv lw
  have q1 : khN W.cd = endN W.ns := khN_cd (by omega) (by omega) (by omega) (by omega) (by omega) (by omega) (by omega)
  have q2 : khN V.cd = endN V.ns := khN_cd (by omega) (by omega) (by omega) (by omega) (by omega) (by omega) (by omega)
  have sm : ∀ n ∈ W.ns, n < 4096 := by
    intro n hn
    simp only [W7.ns, List.mem_cons, List.not_mem_nil, or_false] at hn
    omega
  have sm2 : ∀ n ∈ V.ns, n < 4096 := by
    intro n hn
    simp only [W7.ns, List.mem_cons, List.not_mem_nil, or_false] at hn
    omega
  rw [q1] at n1
  rw [q2] at n2
  have ee := hash_apart sm sm2 rfl rfl n1 n2 e
  have ec := i1 (by rw [q1, q2, ee])
  obtain ⟨e0, e1, e2, e3, e4, e5, e6⟩ := cd_inj (by omega) (by omega) (by omega) (by omega) (by omega) (by omega) (by omega) (by omega) (by omega) (by omega) (by omega) (by omega) ec
  unfold W7.k W7.ns
  rw [e0, e1, e2, e3, e4, e5, e6]
theorem okB_run : ∀ (ws : List Wd) {s : B7}, OkB s → OkB (runB s ws)
  | [], _, h => h
  | w :: ws, s, h => okB_run ws (s := w.stepB s) (okB_step h w)
theorem nd_run : ∀ (ws : List Wd) {s : B7}, NdB s → NdB (runB s ws)
  | [], _, h => h
  | w :: ws, s, h => nd_run ws (s := w.stepB s) (nd_step h w)
theorem nodup_map_of {α β : Type} {f : α → β} : ∀ {l : List α}, l.Nodup → (∀ a ∈ l, ∀ b ∈ l, f a = f b → a = b) → (l.map f).Nodup
  | [], _, _ => List.nodup_nil
  | x :: l, nd, h => by
    rw [List.nodup_cons] at nd
    rw [List.map_cons, List.nodup_cons]
    refine ⟨fun z => ?_, nodup_map_of nd.2 fun a ha b hb e => h a (List.mem_cons_of_mem _ ha) b (List.mem_cons_of_mem _ hb) e⟩
    obtain ⟨y, hy, e⟩ := List.mem_map.mp z
    have := h y (List.mem_cons_of_mem _ hy) x (List.mem_cons_self ..) e
    exact nd.1 (this ▸ hy)
/-! no two monomials of a book at y behind at most eleven words hash alike -/

theorem key_k {k : List Int} (hk : OkK k) {W : W7} (h : vK k = W.v) : k = W.k := key_of_v hk.1 h
theorem apart_y {ws : List Wd} (hl : ws.length ≤ 11) : Apart (runB begB ws).y := by
  obtain ⟨S, h1, h2⟩ := klv_sound (k := fun l => kapt (kprm l)) (n := 11) (S := [4096]) (N := [4096]) (fun c h => h) (fun c h => .inl h)
  rw [kapt_y] at h1
  have h2 := h2 4096 (List.mem_singleton.mpr rfl)
  have ok : ∀ k ∈ keysB (runB begB ws).y, OkK k := fun k hk => okB_run ws okB_beg _ (by simp [B7.L]) k hk
  have cy : Cn eY 4096 := ⟨0, 0, 0, Nat.le_refl _, Nat.le_refl _, .inl ⟨rfl, rfl, rfl⟩, rfl⟩
  have nd : (keysB (runB begB ws).y).Nodup := nd_run ws nd_beg _ (by simp [B7.L])
  unfold Apart
  refine nodup_map_of nd fun a ha b hb e => ?_
  obtain ⟨W, rW, vW⟩ := key_y ha
  obtain ⟨V, rV, vV⟩ := key_y hb
  have rW := rW.more 11 hl
  have rV := rV.more 11 hl
  have mW := code_mem h2 cy rW (by decide)
  have mV := code_mem h2 cy rV (by decide)
  have sW := sm_rch rW
  have sV := sm_rch rV
  have s1 : eY.sm = 1 := rfl
  rw [s1] at sW sV
  rw [key_k (ok a ha) vW, key_k (ok b hb) vV] at e ⊢
  exact hash_code h1.symm mW mV (by omega) (by omega) e
/-! how many monomials a book can have: all ways backwards through a row -/
noncomputable section
def kmx (a b : Nat) : Nat := kfc a fun a => kfc b fun b => Bool.rec a b (Nat.ble a b)
def ksm (g : Nat → Nat) (n : Nat) : Nat := Nat.rec (g 0) (fun m ih => Nat.add (kfc (Nat.succ m) g) ih) n
def kFn (n : Nat) : Nat → Nat → Nat := Nat.rec (fun _ _ => 1) (fun _ ih A B => kmx (ksm (fun j => ih A j) B) (kmx (kfc (Nat.add A B) fun C => ih C B) (ih A A))) n
def kGn (n : Nat) : Nat → Nat → Nat := Nat.rec (fun A _ => A) (fun _ ih A B => kmx (kfc (Nat.add A B) fun C => ih C B) (ih A A)) n
end
theorem kmx_l (a b : Nat) : a ≤ kmx a b := by
  show a ≤ (Bool.rec a b (Nat.ble a b) : Nat)
  cases h : Nat.ble a b with
  | false => exact Nat.le_refl _
  | true => exact Nat.le_of_ble_eq_true h
theorem kmx_r (a b : Nat) : b ≤ kmx a b := by
  show b ≤ (Bool.rec a b (Nat.ble a b) : Nat)
  cases h : Nat.ble a b with
  | false =>
    show b ≤ a
    have : ¬ a ≤ b := fun z => by rw [Nat.ble_eq_true_of_le z] at h; cases h
    omega
  | true => exact Nat.le_refl _
theorem kFn_s (n A B : Nat) : kFn (n + 1) A B = kmx (ksm (fun j => kFn n A j) B) (kmx (kFn n (A + B) B) (kFn n A A)) := rfl
theorem kGn_s (n A B : Nat) : kGn (n + 1) A B = kmx (kGn n (A + B) B) (kGn n A A) := rfl
theorem ksm_s (g : Nat → Nat) (n : Nat) : ksm g (n + 1) = g (n + 1) + ksm g n := rfl
def spL (W : W7) : Nat → List W7
  | 0 => [⟨0, W.x, W.y, W.z + W.t, W.b⟩]
  | j + 1 => ⟨j + 1, W.x - (j + 1), W.y, W.z + W.t, W.b⟩ :: spL W j
theorem mem_spL {W : W7} : ∀ {n j : Nat}, j ≤ n → (⟨j, W.x - j, W.y, W.z + W.t, W.b⟩ : W7) ∈ spL W n
  | 0, j, h => by
    obtain rfl : j = 0 := by omega
    exact List.mem_singleton.mpr rfl
  | n + 1, j, h => by
    by_cases e : j = n + 1
    · subst e; exact List.mem_cons_self ..
    · exact List.mem_cons_of_mem _ (mem_spL (by omega))
def stL (w : Wd) (W : W7) : List W7 := match w with
  | .sign => [W]
  | .enter => [⟨W.x + W.y, W.z, W.t, 0, W.b⟩]
  | .two .plus => spL W W.x
  | .two .minus => spL W W.x
  | .two .times => [⟨W.x, W.x, W.y, W.z + W.t, W.b⟩]
  | .swap => [⟨W.y, W.x, W.z, W.t, W.b⟩]
  | .roll => [⟨W.t, W.x, W.y, W.z, W.b⟩]
  | .fig _ => [⟨W.y, W.z, W.t, 0, W.b⟩]
  | .put k => [⟨W.x + W.b k, W.y, W.z, W.t, fun i => if i = k then 0 else W.b i⟩]
  | .get k => [⟨W.y, W.z, W.t, 0, fun i => if i = k then W.x + W.b i else W.b i⟩]
theorem mem_stL {w : Wd} {W W' : W7} (h : Sw w W W') : W' ∈ stL w W := by
  cases h with
  | plus _ i hi =>
    have := mem_spL (W := W) (n := W.x) (j := W.x - i) (by omega)
    rwa [show W.x - (W.x - i) = i by omega] at this
  | minus _ i hi =>
    have := mem_spL (W := W) (n := W.x) (j := W.x - i) (by omega)
    rwa [show W.x - (W.x - i) = i by omega] at this
  | _ => exact List.mem_singleton.mpr rfl
/-- all ways backwards, the last word first -/
def bwL : List Wd → W7 → List W7
  | [], W => [W]
  | w :: r, W => (stL w W).flatMap (bwL r)
theorem runB_app (w : Wd) : ∀ (ws : List Wd) (s : B7), runB s (ws ++ [w]) = w.stepB (runB s ws)
  | [], s => rfl
  | v :: ws, s => runB_app w ws (v.stepB s)
theorem tk_bw {s : B7} (ok : OkB s) {f : Vc} : ∀ (r : List Wd) {W : W7}, Tk (runB s r.reverse) W f → ∃ W' ∈ bwL r W, Tk s W' f
  | [], W, h => ⟨W, List.mem_singleton.mpr rfl, h⟩
  | w :: r, W, h => by
    rw [List.reverse_cons, runB_app] at h
    obtain ⟨W1, s1, h1⟩ := tk_stepW (okB_run r.reverse ok) w h
    obtain ⟨W2, m2, h2⟩ := tk_bw ok r h1
    exact ⟨W2, List.mem_flatMap.mpr ⟨W1, mem_stL s1, m2⟩, h2⟩
theorem sp_len {f : W7 → List W7} {g : Nat → Nat} {W : W7} : ∀ {n : Nat}, (∀ j ≤ n, (f ⟨j, W.x - j, W.y, W.z + W.t, W.b⟩).length ≤ g j) → ((spL W n).flatMap f).length ≤ ksm g n
  | 0, h => by
    show ((f ⟨0, W.x, W.y, W.z + W.t, W.b⟩) ++ []).length ≤ g 0
    rw [List.append_nil]
    exact h 0 (Nat.le_refl _)
  | n + 1, h => by
    rw [ksm_s]
    show (f _ ++ (spL W n).flatMap f).length ≤ _
    rw [List.length_append]
    exact Nat.add_le_add (h (n + 1) (Nat.le_refl _)) (sp_len fun j hj => h j (by omega))
theorem ksm_mono {g : Nat → Nat} : ∀ {m n : Nat}, n ≤ m → ksm g n ≤ ksm g m
  | 0, n, h => by
    obtain rfl : n = 0 := by omega
    exact Nat.le_refl _
  | m + 1, n, h => by
    by_cases e : n = m + 1
    · rw [e]; exact Nat.le_refl _
    · rw [ksm_s]
      exact Nat.le_trans (ksm_mono (by omega)) (Nat.le_add_left _ _)
/-- a word that is neither plus nor minus nor times leaves the sum as it is, or smaller -/
theorem one_len {f : W7 → List W7} {W : W7} {n : Nat} (h : (f W).length ≤ n) : ([W].flatMap f).length ≤ n := by
  show (f W ++ []).length ≤ n
  rwa [List.append_nil]
theorem bw_len : ∀ (r : List Wd) {W : W7} {A B : Nat}, W.sm ≤ A → W.x ≤ B → (bwL r W).length ≤ kFn r.length A B
  | [], W, A, B, _, _ => Nat.le_refl _
  | w :: r, W, A, B, hA, hB => by
    have hA' := hA
    unfold W7.sm at hA
    rw [List.length_cons, kFn_s]
    show ((stL w W).flatMap (bwL r)).length ≤ _
    have oth : ∀ {W' : W7}, W'.sm ≤ A → (bwL r W').length ≤ kmx (ksm (fun j => kFn r.length A j) B) (kmx (kFn r.length (A + B) B) (kFn r.length A A)) := fun {W'} h =>
      Nat.le_trans (bw_len r h (Nat.le_trans (by unfold W7.sm; omega) h)) (Nat.le_trans (kmx_r _ _) (kmx_r _ _))
    have spl : ((spL W W.x).flatMap (bwL r)).length ≤ kmx (ksm (fun j => kFn r.length A j) B) (kmx (kFn r.length (A + B) B) (kFn r.length A A)) :=
      Nat.le_trans (sp_len (g := fun j => kFn r.length A j) fun j hj => bw_len r (by unfold W7.sm; dsimp only; omega) (Nat.le_refl j)) (Nat.le_trans (ksm_mono hB) (kmx_l _ _))
    cases w with
    | two v =>
      cases v with
      | plus => exact spl
      | minus => exact spl
      | times => exact one_len (Nat.le_trans (bw_len r (A := A + B) (B := B) (by unfold W7.sm; dsimp only; omega) hB) (Nat.le_trans (kmx_l _ _) (kmx_r _ _)))
    | sign => exact one_len (oth hA')
    | put k => exact one_len (oth (by unfold W7.sm; rcases fin3 k with rfl | rfl | rfl <;> simp <;> omega))
    | get k => exact one_len (oth (by unfold W7.sm; rcases fin3 k with rfl | rfl | rfl <;> simp <;> omega))
    | _ => exact one_len (oth (by unfold W7.sm; dsimp only; omega))
/-- how far the powers go together -/
theorem bw_sum : ∀ (r : List Wd) {W W' : W7} {A B : Nat}, W.sm ≤ A → W.x ≤ B → W' ∈ bwL r W → W'.sm ≤ kGn r.length A B
  | [], W, W', A, B, hA, _, h => by
    rw [List.mem_singleton.mp h]
    exact hA
  | w :: r, W, W', A, B, hA, hB, h => by
    have hA' := hA
    unfold W7.sm at hA
    rw [List.length_cons, kGn_s]
    obtain ⟨W1, h1, h2⟩ := List.mem_flatMap.mp h
    have oth : W1.sm ≤ A → W'.sm ≤ kmx (kGn r.length (A + B) B) (kGn r.length A A) := fun h =>
      Nat.le_trans (bw_sum r h (Nat.le_trans (by unfold W7.sm; omega) h) h2) (kmx_r _ _)
    have spl : ∀ n, n ≤ W.x → W1 ∈ spL W n → W1.sm ≤ A := by
      intro n
      induction n with
      | zero =>
        intro _ h
        rw [List.mem_singleton.mp h]
        unfold W7.sm; dsimp only; omega
      | succ n ih =>
        intro hn h
        rcases List.mem_cons.mp h with rfl | h
        · unfold W7.sm; dsimp only; omega
        · exact ih (by omega) h
    cases w with
    | two v =>
      cases v with
      | plus => exact oth (spl _ (Nat.le_refl _) h1)
      | minus => exact oth (spl _ (Nat.le_refl _) h1)
      | times =>
        rw [List.mem_singleton.mp h1] at h2
        exact Nat.le_trans (bw_sum r (W := ⟨W.x, W.x, W.y, W.z + W.t, W.b⟩) (A := A + B) (B := B) (by unfold W7.sm; dsimp only; omega) hB h2) (kmx_l _ _)
    | sign => exact oth (by rw [List.mem_singleton.mp h1]; exact hA')
    | put k => exact oth (by rw [List.mem_singleton.mp h1]; unfold W7.sm; rcases fin3 k with rfl | rfl | rfl <;> simp <;> omega)
    | get k => exact oth (by rw [List.mem_singleton.mp h1]; unfold W7.sm; rcases fin3 k with rfl | rfl | rfl <;> simp <;> omega)
    | _ => exact oth (by rw [List.mem_singleton.mp h1]; unfold W7.sm; dsimp only; omega)
/-! every word of a row of at most twelve finds what it asks -/
theorem len_sub : ∀ {l m : List (List Int)}, l.Nodup → (∀ a ∈ l, a ∈ m) → l.length ≤ m.length
  | [], m, _, _ => Nat.zero_le _
  | x :: l, m, nd, h => by
    rw [List.nodup_cons] at nd
    have hx := h x (List.mem_cons_self ..)
    have ih := len_sub (l := l) (m := m.erase x) nd.2 fun a ha => (List.mem_erase_of_ne fun z => nd.1 (by rw [← z]; exact ha)).mpr (h a (List.mem_cons_of_mem _ ha))
    rw [List.length_erase_of_mem hx] at ih
    have : 0 < m.length := List.length_pos_of_mem hx
    rw [List.length_cons]
    omega
theorem tk_one {s : B7} {es : List Ent} (h : es ∈ s.L) {k : List Int} (hk : k ∈ keysB es) : ∃ E : W7, E.sm = 1 ∧ E.x ≤ 1 ∧ Tk s E (vK k) := by
  simp only [B7.L, List.mem_cons, List.not_mem_nil, or_false] at h
  have bx : ∀ i : Fin 3, k ∈ keysB (s.b i) → ∃ E : W7, E.sm = 1 ∧ E.x ≤ 1 ∧ Tk s E (vK k) := fun i hk => by
    refine ⟨⟨0, 0, 0, 0, fun j => if j = i then 1 else 0⟩, by rcases fin3 i with rfl | rfl | rfl <;> rfl, Nat.zero_le _, fun _ => 0, fun _ => 0, fun _ => 0, fun _ => 0, fun j => if j = i then vK k else fun _ => 0, .nil, .nil, .nil, .nil, fun j => ?_, funext fun j => ?_⟩
    · show Sel (s.b j) (if j = i then 1 else 0) (if j = i then vK k else fun _ => 0)
      by_cases e : j = i
      · rw [if_pos e, if_pos e, e]; exact Sel.one hk
      · rw [if_neg e, if_neg e]; exact .nil
    · rcases fin3 i with rfl | rfl | rfl <;> simp
  rcases h with rfl | rfl | rfl | rfl | rfl | rfl | rfl
  · exact ⟨⟨1, 0, 0, 0, fun _ => 0⟩, rfl, Nat.le_refl _, vK k, fun _ => 0, fun _ => 0, fun _ => 0, fun _ _ => 0, Sel.one hk, .nil, .nil, .nil, fun _ => .nil, funext fun j => by simp⟩
  · exact ⟨⟨0, 1, 0, 0, fun _ => 0⟩, rfl, Nat.zero_le _, fun _ => 0, vK k, fun _ => 0, fun _ => 0, fun _ _ => 0, .nil, Sel.one hk, .nil, .nil, fun _ => .nil, funext fun j => by simp⟩
  · exact ⟨⟨0, 0, 1, 0, fun _ => 0⟩, rfl, Nat.zero_le _, fun _ => 0, fun _ => 0, vK k, fun _ => 0, fun _ _ => 0, .nil, .nil, Sel.one hk, .nil, fun _ => .nil, funext fun j => by simp⟩
  · exact ⟨⟨0, 0, 0, 1, fun _ => 0⟩, rfl, Nat.zero_le _, fun _ => 0, fun _ => 0, fun _ => 0, vK k, fun _ _ => 0, .nil, .nil, .nil, Sel.one hk, fun _ => .nil, funext fun j => by simp⟩
  · exact bx 0 hk
  · exact bx 1 hk
  · exact bx 2 hk
theorem kFn_le {n : Nat} (h : n ≤ 12) : kFn n 1 1 ≤ 20000 := by
  have : n = 0 ∨ n = 1 ∨ n = 2 ∨ n = 3 ∨ n = 4 ∨ n = 5 ∨ n = 6 ∨ n = 7 ∨ n = 8 ∨ n = 9 ∨ n = 10 ∨ n = 11 ∨ n = 12 := by omega
  refine Nat.le_of_ble_eq_true ?_
  rcases this with rfl | rfl | rfl | rfl | rfl | rfl | rfl | rfl | rfl | rfl | rfl | rfl | rfl <;> decide +kernel
theorem kFn_le2 {n : Nat} (h : n ≤ 11) : kFn n 2 1 ≤ 20000 := by
  have : n = 0 ∨ n = 1 ∨ n = 2 ∨ n = 3 ∨ n = 4 ∨ n = 5 ∨ n = 6 ∨ n = 7 ∨ n = 8 ∨ n = 9 ∨ n = 10 ∨ n = 11 := by omega
  refine Nat.le_of_ble_eq_true ?_
  rcases this with rfl | rfl | rfl | rfl | rfl | rfl | rfl | rfl | rfl | rfl | rfl | rfl <;> decide +kernel
theorem kGn_le {n : Nat} (h : n ≤ 12) : kGn n 1 1 ≤ 108 := by
  have : n = 0 ∨ n = 1 ∨ n = 2 ∨ n = 3 ∨ n = 4 ∨ n = 5 ∨ n = 6 ∨ n = 7 ∨ n = 8 ∨ n = 9 ∨ n = 10 ∨ n = 11 ∨ n = 12 := by omega
  refine Nat.le_of_ble_eq_true ?_
  rcases this with rfl | rfl | rfl | rfl | rfl | rfl | rfl | rfl | rfl | rfl | rfl | rfl | rfl <;> decide +kernel
theorem len_bw {es : List Ent} {l : List W7} (nd : (keysB es).Nodup) (h : ∀ k ∈ keysB es, ∃ W ∈ l, k = W.k) : es.length ≤ l.length := by
  have := len_sub (l := keysB es) (m := l.map W7.k) nd fun k hk => by
    obtain ⟨W, hW, e⟩ := h k hk
    exact List.mem_map.mpr ⟨W, hW, e.symm⟩
  rw [List.length_map] at this
  unfold keysB at this
  rwa [List.length_map] at this
theorem tk_k {pre : List Wd} {W : W7} {k : List Int} (hk : OkK k) (h : Tk (runB begB pre) W (vK k)) : ∃ V ∈ bwL pre.reverse W, k = V.k := by
  rw [← List.reverse_reverse pre] at h
  obtain ⟨V, hV, hT⟩ := tk_bw okB_beg pre.reverse h
  exact ⟨V, hV, key_k hk (tk_beg hT)⟩
theorem key_run {pre : List Wd} {es : List Ent} (h : es ∈ (runB begB pre).L) {k : List Int} (hk : k ∈ keysB es) : ∃ E : W7, E.sm = 1 ∧ E.x ≤ 1 ∧ ∃ V ∈ bwL pre.reverse E, k = V.k := by
  obtain ⟨E, e1, e2, t⟩ := tk_one h hk
  exact ⟨E, e1, e2, tk_k (okB_run pre okB_beg es h k hk) t⟩
theorem tk_pl {s : B7} (i : Fin 7) : ∃ E : W7, E.sm = 1 ∧ E.x ≤ 1 ∧ ∀ k ∈ keysB (s.L.getD i.val []), Tk s E (vK k) := by
  have bx : ∀ i : Fin 3, ∃ E : W7, E.sm = 1 ∧ E.x ≤ 1 ∧ ∀ k ∈ keysB (s.b i), Tk s E (vK k) := fun i => by
    refine ⟨⟨0, 0, 0, 0, fun j => if j = i then 1 else 0⟩, by rcases fin3 i with rfl | rfl | rfl <;> rfl, Nat.zero_le _, fun k hk => ⟨fun _ => 0, fun _ => 0, fun _ => 0, fun _ => 0, fun j => if j = i then vK k else fun _ => 0, .nil, .nil, .nil, .nil, fun j => ?_, funext fun j => ?_⟩⟩
    · show Sel (s.b j) (if j = i then 1 else 0) (if j = i then vK k else fun _ => 0)
      by_cases e : j = i
      · rw [if_pos e, if_pos e, e]; exact Sel.one hk
      · rw [if_neg e, if_neg e]; exact .nil
    · rcases fin3 i with rfl | rfl | rfl <;> simp
  match i with
  | 0 => exact ⟨⟨1, 0, 0, 0, fun _ => 0⟩, rfl, Nat.le_refl _, fun k hk => ⟨vK k, fun _ => 0, fun _ => 0, fun _ => 0, fun _ _ => 0, Sel.one hk, .nil, .nil, .nil, fun _ => .nil, funext fun j => by simp⟩⟩
  | 1 => exact ⟨⟨0, 1, 0, 0, fun _ => 0⟩, rfl, Nat.zero_le _, fun k hk => ⟨fun _ => 0, vK k, fun _ => 0, fun _ => 0, fun _ _ => 0, .nil, Sel.one hk, .nil, .nil, fun _ => .nil, funext fun j => by simp⟩⟩
  | 2 => exact ⟨⟨0, 0, 1, 0, fun _ => 0⟩, rfl, Nat.zero_le _, fun k hk => ⟨fun _ => 0, fun _ => 0, vK k, fun _ => 0, fun _ _ => 0, .nil, .nil, Sel.one hk, .nil, fun _ => .nil, funext fun j => by simp⟩⟩
  | 3 => exact ⟨⟨0, 0, 0, 1, fun _ => 0⟩, rfl, Nat.zero_le _, fun k hk => ⟨fun _ => 0, fun _ => 0, fun _ => 0, vK k, fun _ _ => 0, .nil, .nil, .nil, Sel.one hk, fun _ => .nil, funext fun j => by simp⟩⟩
  | 4 => exact bx 0
  | 5 => exact bx 1
  | 6 => exact bx 2
/-- books are small -/
theorem run_len {pre : List Wd} (hl : pre.length ≤ 12) (i : Fin 7) : ((runB begB pre).L.getD i.val []).length ≤ 20000 := by
  obtain ⟨E, e1, e2, h⟩ := tk_pl (s := runB begB pre) i
  have hm : (runB begB pre).L.getD i.val [] ∈ (runB begB pre).L := by
    match i with
    | 0 => simp [B7.L]
    | 1 => simp [B7.L]
    | 2 => simp [B7.L]
    | 3 => simp [B7.L]
    | 4 => simp [B7.L]
    | 5 => simp [B7.L]
    | 6 => simp [B7.L]
  have q := len_bw (l := bwL pre.reverse E) (nd_run pre nd_beg _ hm) fun k hk => tk_k (okB_run pre okB_beg _ hm k hk) (h k hk)
  have b := bw_len pre.reverse (W := E) (A := 1) (B := 1) (by omega) e2
  rw [List.length_reverse] at b
  exact Nat.le_trans q (Nat.le_trans b (kFn_le hl))
theorem nr_run : ∀ (ws : List Wd) {s : B7} {e : Nat}, 4 ≤ e → NrB e s → NrB (2 ^ ws.length * e) (runB s ws)
  | [], s, e, _, h => by
    rw [List.length_nil, Nat.pow_zero, Nat.one_mul]
    exact h
  | w :: ws, s, e, he, h => by
    have := nr_run ws (s := w.stepB s) (e := 2 * e) (by omega) (nr_step he h w)
    rw [List.length_cons, Nat.pow_succ, Nat.mul_assoc]
    exact this
theorem nr_beg : NrB 4 begB := by
  refine ⟨by decide, by decide, by decide, by decide, fun i => ?_⟩
  rcases fin3 i with rfl | rfl | rfl <;> decide
theorem nr_all {pre : List Wd} (hl : pre.length ≤ 12) {es : List Ent} (h : es ∈ (runB begB pre).L) : nrm es < 2 ^ 16384 := by
  obtain ⟨h1, h2, h3, h4, h5⟩ := nr_run pre (Nat.le_refl _) nr_beg
  have p : (2 : Nat) ^ (2 ^ pre.length * 4) ≤ 2 ^ 16384 := by
    refine Nat.pow_le_pow_right (by decide) ?_
    have : 2 ^ pre.length ≤ 2 ^ 12 := Nat.pow_le_pow_right (by decide) hl
    omega
  simp only [B7.L, List.mem_cons, List.not_mem_nil, or_false] at h
  rcases h with rfl | rfl | rfl | rfl | rfl | rfl | rfl
  · exact Nat.lt_of_lt_of_le h1 p
  · exact Nat.lt_of_lt_of_le h2 p
  · exact Nat.lt_of_lt_of_le h3 p
  · exact Nat.lt_of_lt_of_le h4 p
  · exact Nat.lt_of_lt_of_le (h5 0) p
  · exact Nat.lt_of_lt_of_le (h5 1) p
  · exact Nat.lt_of_lt_of_le (h5 2) p
theorem okw_run {pre : List Wd} (hl : pre.length ≤ 11) (w : Wd) : Okw w (runB begB pre) := by
  have mx : (runB begB pre).x ∈ (runB begB pre).L := by simp [B7.L]
  have my : (runB begB pre).y ∈ (runB begB pre).L := by simp [B7.L]
  have nx := nd_run pre nd_beg _ mx
  have ny := nd_run pre nd_beg _ my
  have lx : (runB begB pre).x.length ≤ 20000 := run_len (by omega) 0
  have ly : (runB begB pre).y.length ≤ 20000 := run_len (by omega) 1
  have ox := okB_run pre okB_beg _ mx
  have oy := okB_run pre okB_beg _ my
  have rx := nr_all (by omega) mx
  have ry := nr_all (by omega) my
  cases w with
  | sign => exact x_oppB nx (by omega)
  | two v =>
    cases v with
    | plus => exact x_addB ny nx (by omega) (apart_y hl)
    | minus => exact x_takB ny nx (by omega) (apart_y hl)
    | times =>
      have p16 : (2 : Nat) ^ 16384 < 2 ^ 100000 := Nat.pow_lt_pow_right (by decide) (by decide)
      refine x_mulB (P := fun k => ∃ V ∈ bwL pre.reverse ⟨1, 1, 0, 0, fun _ => 0⟩, k = V.k) ?_ ny nx (fun e he => ?_) (fun e he f hf => ?_) fun e he f hf => ?_
      · intro acc hs
        have q := len_bw (l := bwL pre.reverse ⟨1, 1, 0, 0, fun _ => 0⟩) hs.nd hs.all
        have b := bw_len pre.reverse (W := ⟨1, 1, 0, 0, fun _ => 0⟩) (A := 2) (B := 1) (by decide) (by decide)
        rw [List.length_reverse] at b
        have := kFn_le2 hl
        omega
      · rw [(oy _ (List.mem_map.mpr ⟨e, he, rfl⟩)).1]
        decide
      · exact mul_w (Nat.lt_trans (Nat.lt_of_le_of_lt (nrm_mem he) ry) p16) (Nat.lt_trans (Nat.lt_of_le_of_lt (nrm_mem hf) rx) p16)
      · have he' : e.1 ∈ keysB (runB begB pre).y := List.mem_map.mpr ⟨e, he, rfl⟩
        have hf' : f.1 ∈ keysB (runB begB pre).x := List.mem_map.mpr ⟨f, hf, rfl⟩
        have o1 := oy _ he'
        have o2 := ox _ hf'
        refine tk_k (okK_add o1 o2) ⟨vK f.1, vK e.1, fun _ => 0, fun _ => 0, fun _ _ => 0, Sel.one hf', Sel.one he', .nil, .nil, fun _ => .nil, funext fun j => ?_⟩
        rw [vK_add (o1.1.trans o2.1.symm)]
        simp
        omega
  | _ => trivial
theorem okR_of : ∀ {ws : List Wd} {s : B7}, (∀ pre w post, ws = pre ++ w :: post → Okw w (runB s pre)) → OkR s ws
  | [], s, _ => trivial
  | w :: ws, s, h => ⟨h [] w ws rfl, okR_of fun pre v post e => by
      have := h (w :: pre) v post (by rw [e]; rfl)
      exact this⟩
theorem okR_12 {ws : List Wd} (hl : ws.length ≤ 12) : OkR begB ws := okR_of fun pre w post e => okw_run (by rw [e, List.length_append, List.length_cons] at hl; omega) w
/-! the order of forms -/
open PySem.W (dataLt dataLt_tuple dataLt_pair dataLt_ints rowLt alike eqv_all_cons alike_ints)
theorem lt_tup (a b : List Int) : dataLt (.tuple (a.map .int)) (.tuple (b.map .int)) = decide (a < b) := by
  rw [dataLt_tuple]
  show rowLt (a.map .int) (b.map .int) = _
  rw [dataLt_ints]
theorem eqv_ints : ∀ a b : List Int, PyData.eqvAll (a.map .int) (b.map .int) = decide (a = b)
  | [], [] => by simp [PyData.eqvAll]
  | [], y :: b => by simp [PyData.eqvAll]
  | x :: a, [] => by simp [PyData.eqvAll]
  | x :: a, y :: b => by
    rw [List.map_cons, List.map_cons, eqv_all_cons, eqv_ints a b]
    simp only [PyData.eqv]
    by_cases h : x = y <;> by_cases g : a = b <;> simp [h, g]
theorem le_ent (e f : Ent) : L2.leB e f = decide (¬ (f.1 < e.1 ∨ (f.1 = e.1 ∧ f.2 < e.2))) := by
  show (!dataLt (L2.encB f) (L2.encB e)) = _
  unfold L2.encB
  rw [dataLt_pair (by rw [alike]; exact alike_ints _ _) (by simp [alike]), lt_tup, PySem.W.dataLt_int]
  have q : PyData.eqv (.tuple (f.1.map .int)) (.tuple (e.1.map .int)) = decide (f.1 = e.1) := by
    simp only [PyData.eqv]
    exact eqv_ints _ _
  rw [q, decide_not]
  congr 1
  by_cases h : f.1 = e.1
  · by_cases g : f.2 = e.2
    · simp [h, g, PyData.eqv, List.lt_irrefl]
    · simp [h, g, PyData.eqv, List.lt_irrefl]
  · simp [h]
theorem lt_tri (a b : List Int) (h1 : ¬ a < b) (h2 : ¬ b < a) : a = b := List.le_antisymm (List.not_lt.mp h2) (List.not_lt.mp h1)
theorem leB_tot : PySem.W.TotalLe L2.leB where
  trans := fun a b c h1 h2 => by
    rw [le_ent, decide_eq_true_eq] at h1 h2 ⊢
    intro h
    rcases h with h | ⟨h, g⟩
    · by_cases q : b.1 = c.1
      · exact h1 (.inl (by rw [q]; exact h))
      · have bc : b.1 < c.1 := Classical.byContradiction fun z => q (lt_tri _ _ z fun z => h2 (.inl z))
        exact h1 (.inl (List.lt_trans bc h))
    · by_cases q : b.1 = c.1
      · have : ¬ b.2 < a.2 := fun z => h1 (.inr ⟨q.trans h, z⟩)
        have : ¬ c.2 < b.2 := fun z => h2 (.inr ⟨q.symm, z⟩)
        omega
      · have bc : b.1 < c.1 := Classical.byContradiction fun z => q (lt_tri _ _ z fun z => h2 (.inl z))
        exact h1 (.inl (by rw [← h]; exact bc))
  total := fun a b => by
    rw [le_ent, le_ent, decide_eq_true_eq, decide_eq_true_eq]
    by_cases h : b.1 < a.1 ∨ (b.1 = a.1 ∧ b.2 < a.2)
    · refine .inr fun g => ?_
      rcases h with h | ⟨h, h'⟩ <;> rcases g with g | ⟨g, g'⟩
      · exact List.lt_irrefl _ (List.lt_trans h g)
      · rw [g] at h; exact List.lt_irrefl _ h
      · rw [h] at g; exact List.lt_irrefl _ g
      · omega
    · exact .inl h
/-- in a form the keys go up -/
theorem sort_up {es : List Ent} (nd : (keysB es).Nodup) : (L2.sortB es).Pairwise (fun e f => e.1 < f.1) := by
  have p := PySem.W.sort_pairwise leB_tot es
  have nd2 : (keysB (L2.sortB es)).Nodup := ((sort_perm es).map _).nodup_iff.mpr nd
  have nd3 : (L2.sortB es).Pairwise (fun e f => e.1 ≠ f.1) := List.pairwise_map.mp nd2
  refine (p.and nd3).imp fun {a b} h => ?_
  have h1 := h.1
  rw [le_ent, decide_eq_true_eq] at h1
  exact Classical.byContradiction fun z => h.2 (lt_tri _ _ z fun z => h1 (.inl z))
/-! what a form is, by the law -/
def NzB (s : B7) : Prop := ∀ es ∈ s.L, ∀ e ∈ es, e.2 ≠ 0
theorem nz_tidy {es : List Ent} : ∀ e ∈ tidyB es, e.2 ≠ 0 := fun e he => by
  have := (List.mem_filter.mp he).2
  simpa using this
theorem nz_step {s : B7} (ok : NzB s) (w : Wd) : NzB (w.stepB s) := by
  have hx := ok s.x (by simp [B7.L])
  have hy := ok s.y (by simp [B7.L])
  have hz := ok s.z (by simp [B7.L])
  have ht := ok s.t (by simp [B7.L])
  have hb : ∀ i, ∀ e ∈ s.b i, e.2 ≠ 0 := fun i => by
    rcases fin3 i with rfl | rfl | rfl <;> exact ok _ (by simp [B7.L])
  have mk : ∀ s' : B7, (∀ e ∈ s'.x, e.2 ≠ 0) → (∀ e ∈ s'.y, e.2 ≠ 0) → (∀ e ∈ s'.z, e.2 ≠ 0) → (∀ e ∈ s'.t, e.2 ≠ 0) → (∀ i, ∀ e ∈ s'.b i, e.2 ≠ 0) → NzB s' := fun s' a b c d e es hes => by
    simp only [B7.L, List.mem_cons, List.not_mem_nil, or_false] at hes
    rcases hes with rfl | rfl | rfl | rfl | rfl | rfl | rfl
    · exact a
    · exact b
    · exact c
    · exact d
    · exact e 0
    · exact e 1
    · exact e 2
  cases w with
  | fig n => exact mk _ nz_tidy hx hy hz hb
  | enter => exact mk _ hx hx hy hz hb
  | sign =>
    refine mk _ (fun e he => ?_) hy hz ht hb
    obtain ⟨f, hf, rfl⟩ := List.mem_map.mp (show e ∈ oppB s.x from he)
    have := hx f hf
    show -f.2 ≠ 0
    omega
  | swap => exact mk _ hy hx hz ht hb
  | roll => exact mk _ hy hz ht hx hb
  | put k =>
    refine mk _ hx hy hz ht fun i e he => ?_
    have he : e ∈ (if i = k then s.x else s.b i) := he
    split at he
    · exact hx e he
    · exact hb i e he
  | get k => exact mk _ (hb k) hx hy hz hb
  | two v =>
    refine mk _ ?_ hz ht ht hb
    cases v with
    | plus => exact nz_tidy
    | minus => exact nz_tidy
    | times => exact nz_tidy
theorem nz_run : ∀ (ws : List Wd) {s : B7}, NzB s → NzB (runB s ws)
  | [], _, h => h
  | w :: ws, s, h => nz_run ws (s := w.stepB s) (nz_step h w)
theorem nz_beg : NzB begB := by
  intro es hes e he
  simp only [B7.L, List.mem_cons, List.not_mem_nil, or_false] at hes
  rcases hes with rfl | rfl | rfl | rfl | rfl | rfl | rfl <;> (rw [List.mem_singleton.mp he]; decide)
/-- what a form must be -/
structure Frm (es : List Ent) : Prop where
  up : es.Pairwise (fun e f => e.1 < f.1)
  ok : ∀ e ∈ es, OkK e.1
  nz : ∀ e ∈ es, e.2 ≠ 0
  len : es.length ≤ 20000
  wb : Wb es
theorem deg_k (V : W7) : degK V.k = V.sm := by
  unfold W7.k W7.ns W7.sm
  simp [degK]
  omega
theorem frm_run {pre : List Wd} (hl : pre.length ≤ 12) (i : Fin 7) : Frm (L2.sortB ((runB begB pre).L.getD i.val [])) := by
  have hm : (runB begB pre).L.getD i.val [] ∈ (runB begB pre).L := by
    match i with
    | 0 => simp [B7.L]
    | 1 => simp [B7.L]
    | 2 => simp [B7.L]
    | 3 => simp [B7.L]
    | 4 => simp [B7.L]
    | 5 => simp [B7.L]
    | 6 => simp [B7.L]
  have ln := run_len hl i
  generalize (runB begB pre).L.getD i.val [] = es at hm ln
  have nd := nd_run pre nd_beg _ hm
  have ok := okB_run pre okB_beg _ hm
  refine ⟨sort_up nd, fun e he => ok _ (List.mem_map.mpr ⟨e, mem_sort.mp he, rfl⟩), fun e he => nz_run pre nz_beg _ hm e (mem_sort.mp he), by rw [(sort_perm es).length_eq]; exact ln, fun e he => ?_⟩
  have he := mem_sort.mp he
  obtain ⟨E, e1, e2, V, hV, ek⟩ := key_run hm (k := e.1) (List.mem_map.mpr ⟨e, he, rfl⟩)
  have b := bw_sum pre.reverse (A := 1) (B := 1) (by omega) e2 hV
  rw [List.length_reverse] at b
  have g := kGn_le hl
  have n := nrm_mem he
  have r := nr_all hl hm
  have p : (2 : Nat) ^ 16384 ≤ 2 ^ 20000 := Nat.pow_le_pow_right (by decide) (by decide)
  refine ⟨by omega, by rw [ek, deg_k]; omega, fun x hx => ?_⟩
  rw [ek] at hx
  unfold W7.k W7.ns at hx
  unfold W7.sm at b
  simp only [List.map_cons, List.map_nil, List.mem_cons, List.not_mem_nil, or_false] at hx
  omega
/-! a book that is 0 at every setting has no coefficients -/
def ev : List Int → Int → Int
  | [], _ => 0
  | c :: cs, v => c + v * ev cs v
/-- the quotient by v - r -/
def qu : List Int → Int → List Int
  | [], _ => []
  | [_], _ => []
  | _ :: d :: r', r => ev (d :: r') r :: qu (d :: r') r
theorem ev_qu (r v : Int) : ∀ cs : List Int, ev cs v - ev cs r = (v - r) * ev (qu cs r) v
  | [] => by simp [ev, qu]
  | [c] => by simp [ev, qu]
  | c :: d :: r' => by
    have ih := ev_qu r v (d :: r')
    show (c + v * ev (d :: r') v) - (c + r * ev (d :: r') r) = (v - r) * (ev (d :: r') r + v * ev (qu (d :: r') r) v)
    generalize ev (d :: r') v = E at ih ⊢
    generalize ev (d :: r') r = F at ih ⊢
    generalize ev (qu (d :: r') r) v = Q at ih ⊢
    have e : E = F + (v - r) * Q := by omega
    rw [e, Int.mul_add v, Int.mul_add (v - r), Int.sub_mul v r F, Int.mul_left_comm v (v - r) Q]
    omega
theorem qu_len (r : Int) : ∀ cs : List Int, (qu cs r).length = cs.length - 1
  | [] => rfl
  | [_] => rfl
  | c :: d :: r' => by
    show (qu (d :: r') r).length + 1 = _
    rw [qu_len r (d :: r')]
    simp
theorem ev_all {a : Int} : ∀ {cs : List Int}, ev cs a = 0 → (∀ c ∈ qu cs a, c = 0) → ∀ c ∈ cs, c = 0
  | [], _, _, c, h => nomatch h
  | [x], h, _, c, hc => by
    rw [List.mem_singleton.mp hc]
    have h : x + a * 0 = 0 := h
    omega
  | x :: d :: r', h, hq, c, hc => by
    have e := hq (ev (d :: r') a) (List.mem_cons_self ..)
    have h : x + a * ev (d :: r') a = 0 := h
    rw [e, Int.mul_zero] at h
    rcases List.mem_cons.mp hc with rfl | hc
    · omega
    · exact ev_all e (fun z hz => hq z (List.mem_cons_of_mem _ hz)) c hc
/-- as many roots as coefficients: none but 0 -/
theorem ev_zero : ∀ (m : Nat) {cs : List Int} {a : Int}, cs.length ≤ m → (∀ i : Nat, i < m → ev cs (a + i) = 0) → ∀ c ∈ cs, c = 0
  | 0, cs, a, hl, _ => by
    have e : cs = [] := List.length_eq_zero_iff.mp (by omega)
    rw [e]
    intro c h
    cases h
  | m + 1, cs, a, hl, h => by
    have h0 := h 0 (by omega)
    rw [show a + ((0 : Nat) : Int) = a by omega] at h0
    refine ev_all h0 (ev_zero m (a := a + 1) (by rw [qu_len]; omega) fun i hi => ?_)
    have h1 := h (i + 1) (by omega)
    have e := ev_qu a (a + ((i + 1 : Nat) : Int)) cs
    rw [h0, h1] at e
    have e2 : a + ((i + 1 : Nat) : Int) = a + 1 + (i : Int) := by omega
    rw [e2] at e
    have e3 : (0 : Int) = (a + 1 + (i : Int) - a) * ev (qu cs a) (a + 1 + (i : Int)) := by omega
    rcases Int.mul_eq_zero.mp e3.symm with z | z
    · omega
    · exact z
def addAt : List Int → Nat → Int → List Int
  | [], 0, x => [x]
  | [], d + 1, x => 0 :: addAt [] d x
  | c :: cs, 0, x => (c + x) :: cs
  | c :: cs, d + 1, x => c :: addAt cs d x
theorem ev_add (x v : Int) : ∀ (cs : List Int) (d : Nat), ev (addAt cs d x) v = ev cs v + x * v ^ d
  | [], 0 => by simp [addAt, ev]
  | [], d + 1 => by
    show 0 + v * ev (addAt [] d x) v = 0 + x * v ^ (d + 1)
    rw [ev_add x v [] d, Int.pow_succ]
    show 0 + v * (0 + x * v ^ d) = _
    rw [Int.zero_add, Int.zero_add, Int.zero_add, Int.mul_left_comm, Int.mul_comm v]
  | c :: cs, 0 => by
    show c + x + v * ev cs v = c + v * ev cs v + x * v ^ 0
    rw [Int.pow_zero, Int.mul_one]
    omega
  | c :: cs, d + 1 => by
    show c + v * ev (addAt cs d x) v = c + v * ev cs v + x * v ^ (d + 1)
    rw [ev_add x v cs d, Int.pow_succ, Int.mul_add, Int.mul_left_comm v x, Int.mul_comm v (v ^ d)]
    omega
theorem get_add (x : Int) : ∀ (cs : List Int) (d j : Nat), (addAt cs d x).getD j 0 = cs.getD j 0 + if j = d then x else 0
  | [], 0, 0 => by simp [addAt]
  | [], 0, j + 1 => by simp [addAt]
  | [], d + 1, 0 => by simp [addAt]
  | [], d + 1, j + 1 => by
    have := get_add x [] d j
    simp [addAt] at this ⊢
    exact this
  | c :: cs, 0, 0 => by simp [addAt]
  | c :: cs, 0, j + 1 => by simp [addAt]
  | c :: cs, d + 1, 0 => by simp [addAt]
  | c :: cs, d + 1, j + 1 => by
    have := get_add x cs d j
    simp [addAt] at this ⊢
    exact this
/-- a book by the first power, the other six numbers given -/
def col : List Ent → List Int → List Int
  | [], _ => []
  | e :: r, τ => match e.1 with
    | x :: t => addAt (col r τ) x.toNat (e.2 * valK t τ)
    | [] => col r τ
def prt (d : Nat) : List Ent → List Ent
  | [] => []
  | e :: r => match e.1 with
    | x :: t => if x.toNat = d then (t, e.2) :: prt d r else prt d r
    | [] => prt d r
theorem ev_col {n : Nat} (v : Int) (τ : List Int) : ∀ {es : List Ent}, (∀ e ∈ es, e.1.length = n + 1) → ev (col es τ) v = valB es (v :: τ)
  | [], _ => rfl
  | (k, c) :: r, h => by
    have ih := ev_col v τ (es := r) fun e he => h e (List.mem_cons_of_mem _ he)
    have h1 := h (k, c) (List.mem_cons_self ..)
    cases k with
    | nil => cases h1
    | cons x t =>
      show ev (addAt (col r τ) x.toNat (c * valK t τ)) v = c * (v ^ x.toNat * valK t τ) + valB r (v :: τ)
      rw [ev_add, ih, Int.mul_assoc, Int.mul_comm (valK t τ)]
      omega
theorem get_col {n : Nat} (d : Nat) (τ : List Int) : ∀ {es : List Ent}, (∀ e ∈ es, e.1.length = n + 1) → (col es τ).getD d 0 = valB (prt d es) τ
  | [], _ => by simp [col, prt, valB]
  | (k, c) :: r, h => by
    have ih := get_col d τ (es := r) fun e he => h e (List.mem_cons_of_mem _ he)
    have h1 := h (k, c) (List.mem_cons_self ..)
    cases k with
    | nil => cases h1
    | cons x t =>
      show (addAt (col r τ) x.toNat (c * valK t τ)).getD d 0 = valB (if x.toNat = d then (t, c) :: prt d r else prt d r) τ
      rw [get_add, ih]
      by_cases e : x.toNat = d
      · rw [if_pos e, if_pos e.symm]
        show _ = c * valK t τ + valB (prt d r) τ
        omega
      · rw [if_neg e, if_neg (Ne.symm e), Int.add_zero]
def coefB : List Ent → List Int → Int
  | [], _ => 0
  | e :: r, k => (if e.1 = k then e.2 else 0) + coefB r k
theorem coef_prt {n : Nat} {x : Int} (hx : 0 ≤ x) (k : List Int) : ∀ {es : List Ent}, (∀ e ∈ es, e.1.length = n + 1 ∧ ∀ x ∈ e.1, 0 ≤ x) → coefB es (x :: k) = coefB (prt x.toNat es) k
  | [], _ => rfl
  | (j, c) :: r, h => by
    have ih := coef_prt hx k (es := r) fun e he => h e (List.mem_cons_of_mem _ he)
    have h1 := h (j, c) (List.mem_cons_self ..)
    cases j with
    | nil => cases h1.1
    | cons y t =>
      have hy := h1.2 y (List.mem_cons_self ..)
      show (if y :: t = x :: k then c else 0) + coefB r (x :: k) = coefB (if y.toNat = x.toNat then (t, c) :: prt x.toNat r else prt x.toNat r) k
      rw [ih]
      by_cases e : y.toNat = x.toNat
      · have e' : y = x := by omega
        rw [if_pos e, e']
        show _ = (if t = k then c else 0) + coefB (prt x.toNat r) k
        simp
      · have e' : ¬ y = x := fun z => e (by rw [z])
        rw [if_neg e, if_neg fun z => e' (by injection z)]
        omega
theorem prt_mem {d : Nat} {f : Ent} : ∀ {es : List Ent}, f ∈ prt d es → ∃ e ∈ es, ∃ x, e.1 = x :: f.1 ∧ x.toNat = d ∧ e.2 = f.2
  | (j, c) :: r, h => by
    cases j with
    | nil =>
      obtain ⟨e, he, q⟩ := prt_mem (es := r) h
      exact ⟨e, List.mem_cons_of_mem _ he, q⟩
    | cons y t =>
      have h : f ∈ (if y.toNat = d then (t, c) :: prt d r else prt d r) := h
      split at h
      · rename_i hy
        rcases List.mem_cons.mp h with rfl | h
        · exact ⟨(y :: t, c), List.mem_cons_self .., y, rfl, hy, rfl⟩
        · obtain ⟨e, he, q⟩ := prt_mem h
          exact ⟨e, List.mem_cons_of_mem _ he, q⟩
      · obtain ⟨e, he, q⟩ := prt_mem h
        exact ⟨e, List.mem_cons_of_mem _ he, q⟩
theorem coef_out : ∀ {es : List Ent} {k : List Int}, (∀ e ∈ es, e.1 ≠ k) → coefB es k = 0
  | [], _, _ => rfl
  | e :: r, k, h => by
    show (if e.1 = k then e.2 else 0) + coefB r k = 0
    rw [if_neg (h e (List.mem_cons_self ..)), coef_out fun x hx => h x (List.mem_cons_of_mem _ hx)]
    rfl
theorem coef_zero : ∀ (n : Nat) {es : List Ent}, (∀ e ∈ es, e.1.length = n ∧ ∀ x ∈ e.1, 0 ≤ x) → (∀ σ : List Int, σ.length = n → valB es σ = 0) → ∀ k, coefB es k = 0
  | 0, es, h, hv, k => by
    by_cases hk : k = []
    · subst hk
      have v := hv [] rfl
      have : ∀ {es : List Ent}, (∀ e ∈ es, e.1.length = 0) → valB es [] = coefB es [] := fun {es} h => by
        induction es with
        | nil => rfl
        | cons e r ih =>
          have h0 := List.length_eq_zero_iff.mp (h e (List.mem_cons_self ..))
          show e.2 * valK e.1 [] + valB r [] = (if e.1 = [] then e.2 else 0) + coefB r []
          rw [ih fun x hx => h x (List.mem_cons_of_mem _ hx), h0, if_pos rfl]
          show e.2 * 1 + _ = _
          rw [Int.mul_one]
      rw [← this fun e he => (h e he).1]
      exact v
    · exact coef_out fun e he z => hk (by rw [← z]; exact List.length_eq_zero_iff.mp (h e he).1)
  | n + 1, es, h, hv, k => by
    match k with
    | [] => exact coef_out fun e he z => by have := (h e he).1; rw [z] at this; cases this
    | x :: k =>
      by_cases hx : 0 ≤ x
      · rw [coef_prt hx k h]
        refine coef_zero n (fun f hf => ?_) (fun σ hσ => ?_) k
        · obtain ⟨e, he, y, q1, q2, q3⟩ := prt_mem hf
          obtain ⟨a, b⟩ := h e he
          rw [q1] at a b
          exact ⟨Nat.succ.inj a, fun z hz => b z (List.mem_cons_of_mem _ hz)⟩
        · rw [← get_col (n := n) x.toNat σ fun e he => (h e he).1]
          have z := ev_zero (col es σ).length (a := 0) (Nat.le_refl _) fun i _ => by
            rw [ev_col (n := n) _ σ fun e he => (h e he).1]
            exact hv _ (by rw [List.length_cons, hσ])
          rw [List.getD_eq_getElem?_getD]
          cases q : (col es σ)[x.toNat]? with
          | none => rfl
          | some c => exact z c (List.mem_of_getElem? q)
      · exact coef_out fun e he z => by
          have := (h e he).2 x (by rw [z]; exact List.mem_cons_self ..)
          omega
theorem coef_app : ∀ {a b : List Ent} {k : List Int}, coefB (a ++ b) k = coefB a k + coefB b k
  | [], b, k => by show coefB b k = 0 + coefB b k; omega
  | e :: a, b, k => by
    show (if e.1 = k then e.2 else 0) + coefB (a ++ b) k = (if e.1 = k then e.2 else 0) + coefB a k + coefB b k
    rw [coef_app]; omega
theorem coef_opp : ∀ {a : List Ent} {k : List Int}, coefB (oppB a) k = -coefB a k
  | [], k => rfl
  | e :: a, k => by
    show (if e.1 = k then -e.2 else 0) + coefB (oppB a) k = -((if e.1 = k then e.2 else 0) + coefB a k)
    rw [coef_opp]
    split <;> omega
theorem coef_in : ∀ {es : List Ent}, (keysB es).Nodup → ∀ e ∈ es, coefB es e.1 = e.2
  | d :: r, nd, e, he => by
    have nd : (d.1 :: keysB r).Nodup := nd
    rw [List.nodup_cons] at nd
    show (if d.1 = e.1 then d.2 else 0) + coefB r e.1 = e.2
    rcases List.mem_cons.mp he with rfl | he
    · rw [if_pos rfl, coef_out fun x hx z => nd.1 (by rw [← z]; exact List.mem_map.mpr ⟨x, hx, rfl⟩)]
      omega
    · rw [if_neg fun z => nd.1 (by rw [z]; exact List.mem_map.mpr ⟨e, he, rfl⟩), coef_in nd.2 e he]
      omega
theorem coef_mem {es : List Ent} {k : List Int} (h : coefB es k ≠ 0) : ∃ e ∈ es, e.1 = k :=
  Classical.byContradiction fun z => h (coef_out fun e he q => z ⟨e, he, q⟩)
theorem up_nd {es : List Ent} (h : es.Pairwise (fun e f => e.1 < f.1)) : (keysB es).Nodup := by
  unfold keysB
  refine List.pairwise_map.mpr (h.imp fun {a b} (h : a.1 < b.1) (z : a.1 = b.1) => ?_)
  rw [z] at h
  exact List.lt_irrefl _ h
theorem up_eq : ∀ {a b : List Ent}, a.Pairwise (fun e f => e.1 < f.1) → b.Pairwise (fun e f => e.1 < f.1) → (∀ e, e ∈ a ↔ e ∈ b) → a = b
  | [], [], _, _, _ => rfl
  | [], y :: b, _, _, h => nomatch (h y).mpr (List.mem_cons_self ..)
  | x :: a, [], _, _, h => nomatch (h x).mp (List.mem_cons_self ..)
  | x :: a, y :: b, h1, h2, h => by
    rw [List.pairwise_cons] at h1 h2
    have e : x = y := by
      rcases List.mem_cons.mp ((h x).mp (List.mem_cons_self ..)) with q | q
      · exact q
      · rcases List.mem_cons.mp ((h y).mpr (List.mem_cons_self ..)) with p | p
        · exact p.symm
        · exact absurd (List.lt_trans (h1.1 y p) (h2.1 x q)) (List.lt_irrefl _)
    subst e
    refine congrArg (x :: ·) (up_eq h1.2 h2.2 fun e => ⟨fun he => ?_, fun he => ?_⟩)
    · rcases List.mem_cons.mp ((h e).mp (List.mem_cons_of_mem _ he)) with q | q
      · have := h1.1 e he
        rw [q] at this
        exact absurd this (List.lt_irrefl _)
      · exact q
    · rcases List.mem_cons.mp ((h e).mpr (List.mem_cons_of_mem _ he)) with q | q
      · have := h2.1 e he
        rw [q] at this
        exact absurd this (List.lt_irrefl _)
      · exact q
/-- forms that tell the same at all settings are the same -/
theorem frm_eq {F G : List Ent} (f : Frm F) (g : Frm G) (h : ∀ σ : List Int, σ.length = 7 → valB F σ = valB G σ) : F = G := by
  have z := coef_zero 7 (es := F ++ oppB G) (fun e he => by
    rcases List.mem_append.mp he with he | he
    · exact f.ok e he
    · obtain ⟨d, hd, rfl⟩ := List.mem_map.mp he
      exact g.ok d hd) (fun σ hσ => by rw [valB_app, valB_opp, h σ hσ]; omega)
  have z2 : ∀ k, coefB F k = coefB G k := fun k => by
    have := z k
    rw [coef_app, coef_opp] at this
    omega
  have nf := up_nd f.up
  have ng := up_nd g.up
  refine up_eq f.up g.up fun e => ⟨fun he => ?_, fun he => ?_⟩
  · have c := coef_in nf e he
    obtain ⟨d, hd, q⟩ := coef_mem (es := G) (k := e.1) (by rw [← z2, c]; exact f.nz e he)
    have c2 := coef_in ng d hd
    rw [q, ← z2, c] at c2
    have : d = e := Prod.ext q c2.symm
    rw [← this]; exact hd
  · have c := coef_in ng e he
    obtain ⟨d, hd, q⟩ := coef_mem (es := F) (k := e.1) (by rw [z2, c]; exact g.nz e he)
    have c2 := coef_in nf d hd
    rw [q, z2, c] at c2
    have : d = e := Prod.ext q c2.symm
    rw [← this]; exact hd
/-! rows that make the same have the same forms -/
theorem s7_of {σ : List Int} (h : σ.length = 7) : ∃ s : S7, s.l = σ := by
  match σ, h with
  | [a, b, c, d, e, f, g], _ => exact ⟨⟨a, b, c, d, fun i => if i = 0 then e else if i = 1 then f else g⟩, rfl⟩
theorem val_pl (ws : List Wd) (s : S7) (i : Fin 7) : valB ((runB begB ws).L.getD i.val []) s.l = (runW s ws).l.getD i.val 0 := by
  have h := vals_row ws s
  generalize runB begB ws = B at h
  rw [← h]
  match i with
  | 0 => rfl
  | 1 => rfl
  | 2 => rfl
  | 3 => rfl
  | 4 => rfl
  | 5 => rfl
  | 6 => rfl
def frmL (ws : List Wd) : List (List Ent) := (runB begB ws).L.map L2.sortB
theorem frm_same {a b : List Wd} (ha : a.length ≤ 12) (hb : b.length ≤ 12) (i : Fin 7) (h : ∀ s : S7, (runW s a).l.getD i.val 0 = (runW s b).l.getD i.val 0) : L2.sortB ((runB begB a).L.getD i.val []) = L2.sortB ((runB begB b).L.getD i.val []) := by
  refine frm_eq (frm_run ha i) (frm_run hb i) fun σ hσ => ?_
  obtain ⟨s, rfl⟩ := s7_of hσ
  rw [valB_sort, valB_sort, val_pl, val_pl, h]
theorem frms_same {a b : List Wd} (ha : a.length ≤ 12) (hb : b.length ≤ 12) (h : ∀ s : S7, runW s a = runW s b) : frmL a = frmL b := by
  have g := fun i => frm_same ha hb i fun s => by rw [h]
  unfold frmL B7.L
  show [_, _, _, _, _, _, _] = [_, _, _, _, _, _, _]
  rw [show L2.sortB (runB begB a).x = L2.sortB (runB begB b).x from g 0, show L2.sortB (runB begB a).y = L2.sortB (runB begB b).y from g 1, show L2.sortB (runB begB a).z = L2.sortB (runB begB b).z from g 2, show L2.sortB (runB begB a).t = L2.sortB (runB begB b).t from g 3,
    show L2.sortB ((runB begB a).b 0) = L2.sortB ((runB begB b).b 0) from g 4, show L2.sortB ((runB begB a).b 1) = L2.sortB ((runB begB b).b 1) from g 5, show L2.sortB ((runB begB a).b 2) = L2.sortB ((runB begB b).b 2) from g 6]
def frmO (es : List Ent) : DN.D := .tup (es.map entO)
theorem forms_L (ws : List Wd) : (runB begB ws).forms = .tup ((frmL ws).map fun es => .frm (es.map DN.entD)) := by
  unfold B7.forms frmL
  rw [List.map_map]
  rfl
theorem off_list : ∀ l : List (List Ent), offs (l.map fun es => DN.D.frm (es.map DN.entD)) = l.map frmO
  | [] => rfl
  | es :: l => by
    show offP (.frm (es.map DN.entD)) :: offs (l.map fun es => DN.D.frm (es.map DN.entD)) = _
    rw [off_list l]
    show DN.D.tup (offs (es.map DN.entD)) :: _ = _
    rw [offs_ents]
    rfl
theorem off_forms (ws : List Wd) : offP (runB begB ws).forms = .tup ((frmL ws).map frmO) := by
  rw [forms_L]
  show DN.D.tup (offs _) = _
  rw [off_list]
theorem plains_all {α : Type} {n : Nat} {f : α → DN.D} (h : ∀ a, plain n (f a) = true) : ∀ l : List α, plains n (l.map f) = true
  | [] => by unfold plains; rfl
  | a :: l => by
    show plains n (f a :: l.map f) = true
    unfold plains
    rw [h a, plains_all h l]
    rfl
theorem plain_ent (n : Nat) (e : Ent) : plain (n + 2) (entO e) = true := by
  unfold entO
  show plains (n + 1) [.tup (e.1.map DN.D.int), .int e.2] = true
  have : plain (n + 1) (.tup (e.1.map DN.D.int)) = true := plains_all (n := n) (f := DN.D.int) (fun _ => by cases n <;> rfl) e.1
  simp [plains, this]
  rfl
theorem plain_frm (n : Nat) (es : List Ent) : plain (n + 3) (frmO es) = true := plains_all (n := n + 2) (f := entO) (plain_ent n) es
theorem plain_frms (l : List (List Ent)) : plain 64 (.tup (l.map frmO)) = true := plains_all (n := 63) (f := frmO) (plain_frm 60) l
theorem x_alike {a b : List Wd} (ha : a.length ≤ 12) (hb : b.length ≤ 12) : d_alike [.tup (a.map Wd.d), .tup (b.map Wd.d)] = .ok (.bl (eqd (.tup ((frmL a).map frmO)) (.tup ((frmL b).map frmO)))) := by
  have f1 := x_forms (okR_12 ha)
  have f2 := x_forms (okR_12 hb)
  have u1 : unP (callD 1 d_forms (acons (var 0) anil)) [.z (.tup (a.map Wd.d)), .z (.tup (b.map Wd.d))] = .ok (.tup ((frmL a).map frmO)) := by
    unfold unP
    rw [(callD_ok (n := 1) (den := d_forms) (ds := [.tup (a.map Wd.d)]) rfl rfl).trans f1, ← off_forms]
    rfl
  have u2 : unP (callD 1 d_forms (acons (var 1) anil)) [.z (.tup (a.map Wd.d)), .z (.tup (b.map Wd.d))] = .ok (.tup ((frmL b).map frmO)) := by
    unfold unP
    rw [(callD_ok (n := 1) (den := d_forms) (ds := [.tup (b.map Wd.d)]) rfl rfl).trans f2, ← off_forms]
    rfl
  have e : eqD (.tup ((frmL a).map frmO)) (.tup ((frmL b).map frmO)) = some (.bl (eqd (.tup ((frmL a).map frmO)) (.tup ((frmL b).map frmO)))) := by
    unfold eqD eqOk
    rw [plain_frms, plain_frms]
    simp
  rw [v_alike]
  unfold g_alike
  rw [sret_def, bin_def, u1, u2]
  show finR (retR (ofO (eqD (.tup ((frmL a).map frmO)) (.tup ((frmL b).map frmO)))) _) = _
  rw [e]
  rfl
theorem alike_yes {a b : List Wd} (ha : a.length ≤ 12) (hb : b.length ≤ 12) (h : frmL a = frmL b) : d_alike [.tup (a.map Wd.d), .tup (b.map Wd.d)] = .ok (.bl true) := by
  rw [x_alike ha hb, h, eqd_refl 64 _ (plain_frms _)]
theorem pa_loop {a b : En} : ∀ (l : List (List Ent)) (c d : En), ∃ c' d', loopD (gt 2 (gsc (gn 2) (gsc (gn 3) gsn))) b1_parting (prs (l.map fun es => DN.D.frm (es.map DN.entD)) (l.map fun es => DN.D.frm (es.map DN.entD))) [a, b, c, d] = .nx [a, b, c', d']
  | [], c, d => ⟨c, d, loop_nil⟩
  | es :: l, c, d => by
    have u : ∀ i, i = 2 ∨ i = 3 → unP (var i) [a, b, .z (.frm (es.map DN.entD)), .z (.frm (es.map DN.entD))] = .ok (frmO es) := by
      intro i hi
      rcases hi with rfl | rfl
      · show Res.ok (DN.D.tup (offs (es.map DN.entD))) = _
        rw [offs_ents]; rfl
      · show Res.ok (DN.D.tup (offs (es.map DN.entD))) = _
        rw [offs_ents]; rfl
    have ne : neD (frmO es) (frmO es) = some (.bl false) := ne_same (plain_frm 61 es)
    have st : b1_parting [a, b, .z (.frm (es.map DN.entD)), .z (.frm (es.map DN.entD))] = .nx [a, b, .z (.frm (es.map DN.entD)), .z (.frm (es.map DN.entD))] := by
      unfold b1_parting
      rw [sif_def, tst_def, bin_def, u 2 (.inl rfl), u 3 (.inr rfl)]
      show ifR (tstR (ofO (neD (frmO es) (frmO es)))) _ _ _ = _
      rw [ne]
      rfl
    obtain ⟨c', d', ih⟩ := pa_loop (a := a) (b := b) l (.z (.frm (es.map DN.entD))) (.z (.frm (es.map DN.entD)))
    refine ⟨c', d', ?_⟩
    rw [List.map_cons]
    show loopD _ _ (.tup [.frm (es.map DN.entD), .frm (es.map DN.entD)] :: prs (l.map fun es => DN.D.frm (es.map DN.entD)) (l.map fun es => DN.D.frm (es.map DN.entD))) _ = _
    rw [loop_cons (ρ1 := [a, b, .z (.frm (es.map DN.entD)), .z (.frm (es.map DN.entD))]) rfl st, ih]
theorem parting_none {a b : List Wd} (ha : a.length ≤ 12) (hb : b.length ≤ 12) (h : frmL a = frmL b) : d_parting [.tup (a.map Wd.d), .tup (b.map Wd.d)] = .ok .non := by
  have f1 := x_forms (okR_12 ha)
  have f2 := x_forms (okR_12 hb)
  rw [forms_L] at f1 f2
  rw [← h] at f2
  obtain ⟨c', d', lp⟩ := pa_loop (a := .z (.tup (a.map Wd.d))) (b := .z (.tup (b.map Wd.d))) (frmL a) .u .u
  have it : zipI (acons (callD 1 d_forms (acons (var 0) anil)) (acons (callD 1 d_forms (acons (var 1) anil)) anil)) [.z (.tup (a.map Wd.d)), .z (.tup (b.map Wd.d)), .u, .u] = .ok (prs ((frmL a).map fun es => DN.D.frm (es.map DN.entD)) ((frmL a).map fun es => DN.D.frm (es.map DN.entD))) := by
    have c1 : callD 1 d_forms (acons (var 0) anil) [.z (.tup (a.map Wd.d)), .z (.tup (b.map Wd.d)), .u, .u] = _ := (callD_ok (n := 1) (den := d_forms) (ds := [.tup (a.map Wd.d)]) rfl rfl).trans f1
    have c2 : callD 1 d_forms (acons (var 1) anil) [.z (.tup (a.map Wd.d)), .z (.tup (b.map Wd.d)), .u, .u] = _ := (callD_ok (n := 1) (den := d_forms) (ds := [.tup (b.map Wd.d)]) rfl rfl).trans f2
    unfold zipI
    rw [acons_def, acons_def, c1, c2]
    rfl
  rw [v_parting]
  unfold g_parting
  rw [sseq_def, sfor_def, it, forR_ok, lp, seqR_nx]
  rfl
/-! ### k43 -/
def onesW : List (List Wd) := [[.swap, .swap], [.roll, .roll, .roll, .roll], [.sign, .sign], [.two .minus], [.swap, .two .plus], [.swap, .two .times], [.swap, .two .minus], [.enter, .two .plus], [.enter, .two .minus], [.put 1, .put 1]]
def othsW : List (List Wd) := [[], [], [], [.sign, .two .plus], [.two .plus], [.two .times], [.two .minus, .sign], [.fig 2, .two .times], [.fig 0, .two .times], [.put 1]]
def rowD (p : List Wd) : DN.D := .tup (p.map Wd.d)
theorem same_part : ∀ (k : Fin 10) (s : S7), runW s (onesW.getD k.val []) = runW s (othsW.getD k.val [])
  | 0, s => rfl
  | 1, s => rfl
  | 2, ⟨x, y, z, t, b⟩ => by
    show (⟨- -x, y, z, t, b⟩ : S7) = ⟨x, y, z, t, b⟩
    rw [Int.neg_neg]
  | 3, ⟨x, y, z, t, b⟩ => by
    show (⟨y - x, z, t, t, b⟩ : S7) = ⟨y + -x, z, t, t, b⟩
    rw [Int.sub_eq_add_neg]
  | 4, ⟨x, y, z, t, b⟩ => by
    show (⟨x + y, z, t, t, b⟩ : S7) = ⟨y + x, z, t, t, b⟩
    rw [Int.add_comm]
  | 5, ⟨x, y, z, t, b⟩ => by
    show (⟨x * y, z, t, t, b⟩ : S7) = ⟨y * x, z, t, t, b⟩
    rw [Int.mul_comm]
  | 6, ⟨x, y, z, t, b⟩ => by
    show (⟨x - y, z, t, t, b⟩ : S7) = ⟨-(y - x), z, t, t, b⟩
    rw [Int.neg_sub]
  | 7, ⟨x, y, z, t, b⟩ => by
    show (⟨x + x, y, z, z, b⟩ : S7) = ⟨x * 2, y, z, z, b⟩
    congr 1
    omega
  | 8, ⟨x, y, z, t, b⟩ => by
    show (⟨x - x, y, z, z, b⟩ : S7) = ⟨x * 0, y, z, z, b⟩
    rw [Int.sub_self, Int.mul_zero]
  | 9, ⟨x, y, z, t, b⟩ => by
    show (⟨x, y, z, t, fun i => if i = 1 then x else if i = 1 then x else b i⟩ : S7) = ⟨x, y, z, t, fun i => if i = 1 then x else b i⟩
    congr 1
    funext i
    split <;> rfl
theorem runW_app : ∀ (a b : List Wd) (s : S7), runW s (a ++ b) = runW (runW s a) b
  | [], b, s => rfl
  | w :: a, b, s => runW_app a b (w.step s)
theorem ones_len : ∀ k : Fin 10, (onesW.getD k.val []).length ≤ 4 ∧ (othsW.getD k.val []).length ≤ 4 := by decide
theorem oths_D {r n a : En} {arr : En} : t3_law [arr, r, n, a, .u, .u, .u, .u, .u] = t7_law [arr, r, n, a, .z (.tup (onesW.map rowD)), .z (.tup (othsW.map rowD)), .u, .u, .u] := by kernel_rfl
theorem get_map {l : List (List Wd)} {k : Nat} (h : k < l.length) : (l.map rowD).getD k .non = rowD (l.getD k []) := by
  rw [List.getD_eq_getElem?_getD, List.getD_eq_getElem?_getD, List.getElem?_map, List.getElem?_eq_getElem h]
  rfl
theorem box2 (n : Fin 10) (ws : List Wd) : L2.sortB ((runB begB (ws ++ [.fig n, .put 2])).b 2) = L2.sortB (conB n.val) := by
  rw [show ws ++ [Wd.fig n, Wd.put 2] = (ws ++ [Wd.fig n]) ++ [Wd.put 2] by simp, runB_app, runB_app]
  rfl
theorem eqd_7 (a b c d e f g a' b' c' d' e' f' g' : DN.D) (h : eqd g g' = false) : eqd (.tup [a, b, c, d, e, f, g]) (.tup [a', b', c', d', e', f', g']) = false := by
  show (eqd a a' && (eqd b b' && (eqd c c' && (eqd d d' && (eqd e e' && (eqd f f' && (eqd g g' && true))))))) = false
  rw [h]
  simp
theorem part_7 {ws : List Wd} : eqd (.tup ((frmL (ws ++ [.fig 7, .put 2])).map frmO)) (.tup ((frmL (ws ++ [.fig 8, .put 2])).map frmO)) = false := by
  refine eqd_7 _ _ _ _ _ _ _ _ _ _ _ _ _ _ ?_
  rw [box2 7 ws, box2 8 ws]
  have h : ∀ n : Fin 10, n ≠ 0 → L2.sortB (conB n.val) = [([0, 0, 0, 0, 0, 0, 0], (n.val : Int))] := fun n hn => by
    unfold conB tidyB
    rw [List.filter_cons_of_pos (by have : n.val ≠ 0 := fun z => hn (Fin.ext z); simp; omega), List.filter_nil]
    exact List.mergeSort_singleton _
  rw [h 7 (by decide), h 8 (by decide)]
  rfl
theorem law_true (ns : List Int) (h : ns.length ≤ 63) (hz : ∀ z ∈ ns, Builtin.Int.intBits z ≤ 1048576) : d_law [.arr ns] = .ok (.bl true) := by
  obtain ⟨m0, e0, _, _⟩ := x_mixed (ns := ns) (k := 0) (by omega) (by omega)
  obtain ⟨m1, e1, g1, _⟩ := x_mixed (ns := ns) (k := 1) (by omega) (by omega)
  obtain ⟨ws, w1, w2⟩ := x_lplain (n := m0) (m := 8) (by decide) (by decide)
  have ll : lenD [.tup (ws.map Wd.d)] = some (.int (ws.length : Int)) := by rw [len_t, List.length_map]
  have md := mod_p (i := m1 / 16) (show 0 < (ws.length : Int) + 1 by omega)
  obtain ⟨at_, hat⟩ : ∃ a, a = m1 / 16 % ((ws.length : Int) + 1) := ⟨_, rfl⟩
  rw [← hat] at md
  have q0 : 0 ≤ at_ := by rw [hat]; exact Int.emod_nonneg _ (by omega)
  have q1 : at_ ≤ ws.length := by
    have := Int.emod_lt_of_pos (m1 / 16) (show 0 < (ws.length : Int) + 1 by omega)
    omega
  obtain ⟨k, hk⟩ : ∃ k : Fin 10, (k.val : Int) = m1 % 10 := ⟨⟨(m1 % 10).toNat, by omega⟩, by show ((m1 % 10).toNat : Int) = _; omega⟩
  have md2 : modD (.int m1) (.int 10) = some (.int (k.val : Int)) := by rw [mod_p (by decide), hk]
  obtain ⟨l1, l2⟩ := ones_len k
  have sl1 := sl_hiT (f := Wd.d) q0 q1 (by omega)
  have sl2 := sl_loT (f := Wd.d) q0 q1 (by omega)
  have i1 : ixD (.tup (onesW.map rowD)) (.int (k.val : Int)) = some (.tup ((onesW.getD k.val []).map Wd.d)) := by
    rw [ix_t ⟨by omega, by rw [List.length_map]; show (k.val : Int) < 10; omega⟩, Int.toNat_natCast, get_map k.isLt]
    rfl
  have i2 : ixD (.tup (othsW.map rowD)) (.int (k.val : Int)) = some (.tup ((othsW.getD k.val []).map Wd.d)) := by
    rw [ix_t ⟨by omega, by rw [List.length_map]; show (k.val : Int) < 10; omega⟩, Int.toNat_natCast, get_map k.isLt]
    rfl
  have par := same_part k
  generalize onesW.getD k.val [] = p at l1 i1 par
  generalize othsW.getD k.val [] = q at l2 i2 par
  have tl : (ws.take at_.toNat).length + (ws.drop at_.toNat).length = ws.length := by
    rw [← List.length_append, List.take_append_drop]
  have ad : ∀ p : List Wd, p.length ≤ 4 → addD (.tup ((ws.take at_.toNat).map Wd.d)) (.tup (p.map Wd.d)) = some (.tup ((ws.take at_.toNat ++ p).map Wd.d)) := fun p hp => by
    rw [add_tt (by rw [List.length_map, List.length_map]; omega), List.map_append]
  have ad2 : ∀ p : List Wd, p.length ≤ 4 → addD (.tup ((ws.take at_.toNat ++ p).map Wd.d)) (.tup ((ws.drop at_.toNat).map Wd.d)) = some (.tup ((ws.take at_.toNat ++ p ++ ws.drop at_.toNat).map Wd.d)) := fun p hp => by
    rw [add_tt (by rw [List.length_map, List.length_map, List.length_append]; omega), ← List.map_append]
  have lm : ∀ p : List Wd, p.length ≤ 4 → (ws.take at_.toNat ++ p ++ ws.drop at_.toNat).length ≤ 12 := fun p hp => by
    rw [List.length_append, List.length_append]
    omega
  have fs : frmL (ws.take at_.toNat ++ p ++ ws.drop at_.toNat) = frmL (ws.take at_.toNat ++ q ++ ws.drop at_.toNat) := frms_same (lm p l1) (lm q l2) fun s => by
    rw [runW_app, runW_app, runW_app, runW_app, par]
  have ay := alike_yes (lm p l1) (lm q l2) fs
  have p1 := parting_none (lm p l1) (lm q l2) fs
  have p2 := parting_none (lm q l2) (lm p l1) fs.symm
  have a78 := x_alike (a := ws ++ [.fig 7, .put 2]) (b := ws ++ [.fig 8, .put 2]) (by rw [List.length_append]; simp; omega) (by rw [List.length_append]; simp; omega)
  rw [part_7] at a78
  have b7 : addD (.tup (ws.map Wd.d)) (.tup [.str "7", .str "put2"]) = some (.tup ((ws ++ [Wd.fig 7, Wd.put 2]).map Wd.d)) := by
    rw [add_tt (by rw [List.length_map]; simp; omega), List.map_append]
    rfl
  have b8 : addD (.tup (ws.map Wd.d)) (.tup [.str "8", .str "put2"]) = some (.tup ((ws ++ [Wd.fig 8, Wd.put 2]).map Wd.d)) := by
    rw [add_tt (by rw [List.length_map]; simp; omega), List.map_append]
    rfl
  have n1 : isNotBl (.bl true) (.bl true) = some (.bl false) := rfl
  have n2 : isNotN .non .non = some (.bl false) := rfl
  have n3 : isBl (.bl false) (.bl false) = some (.bl true) := rfl
  have t10 : t10_law [.z (.arr ns), .z (.tup (ws.map Wd.d)), .z (.int m1), .z (.int at_), .z (.tup (onesW.map rowD)), .z (.tup (othsW.map rowD)), .z (.int (k.val : Int)), .z (.tup ((ws.take at_.toNat ++ p ++ ws.drop at_.toNat).map Wd.d)), .z (.tup ((ws.take at_.toNat ++ q ++ ws.drop at_.toNat).map Wd.d))] = .rt (.bl true) := by
    generalize onesW.map rowD = o1
    generalize othsW.map rowD = o2
    simp?! [t10_law, t11_law, ay, p1, p2, n1, n2, n3, b7, b8, a78]
  have t7 : t7_law [.z (.arr ns), .z (.tup (ws.map Wd.d)), .z (.int m1), .z (.int at_), .z (.tup (onesW.map rowD)), .z (.tup (othsW.map rowD)), .u, .u, .u] = .rt (.bl true) := by
    rw [← t10]
    generalize onesW.map rowD = o1 at i1
    generalize othsW.map rowD = o2 at i2
    simp?! [t7_law, t8_law, t9_law, md2, sl1, sl2, i1, i2, ad p l1, ad q l2, ad2 p l1, ad2 q l2]
  rw [← oths_D] at t7
  simp?! [v_law, g_law, t1_law, t2_law, e0, e1, w2, ll, md, t7]
def dd_box_of : He.DefD := ⟨("box_of", none), "box_of", "box_of", defArgs s_box_of, defBody s_box_of, defScope s_box_of, [], []⟩
def dd_is_word : He.DefD := ⟨("is_word", none), "is_word", "is_word", defArgs s_is_word, defBody s_is_word, defScope s_is_word, [], []⟩
def dd_moved : He.DefD := ⟨("moved", none), "moved", "moved", defArgs s_moved, defBody s_moved, defScope s_moved, [], []⟩
def dd_tidy : He.DefD := ⟨("tidy", none), "tidy", "tidy", defArgs s_tidy, defBody s_tidy, defScope s_tidy, [], []⟩
def dd_constant : He.DefD := ⟨("constant", none), "constant", "constant", defArgs s_constant, defBody s_constant, defScope s_constant, [], []⟩
def dd_opposite : He.DefD := ⟨("opposite", none), "opposite", "opposite", defArgs s_opposite, defBody s_opposite, defScope s_opposite, [], []⟩
def dd_added : He.DefD := ⟨("added", none), "added", "added", defArgs s_added, defBody s_added, defScope s_added, [], []⟩
def dd_taken : He.DefD := ⟨("taken", none), "taken", "taken", defArgs s_taken, defBody s_taken, defScope s_taken, [], []⟩
def dd_multiplied : He.DefD := ⟨("multiplied", none), "multiplied", "multiplied", defArgs s_multiplied, defBody s_multiplied, defScope s_multiplied, [], []⟩
def dd_made : He.DefD := ⟨("made", none), "made", "made", defArgs s_made, defBody s_made, defScope s_made, [], []⟩
def dd_forms : He.DefD := ⟨("forms", none), "forms", "forms", defArgs s_forms, defBody s_forms, defScope s_forms, [], []⟩
def dd_power_of : He.DefD := ⟨("power_of", none), "power_of", "power_of", defArgs s_power_of, defBody s_power_of, defScope s_power_of, [], []⟩
def dd_alike : He.DefD := ⟨("alike", none), "alike", "alike", defArgs s_alike, defBody s_alike, defScope s_alike, [], []⟩
def dd_with_value : He.DefD := ⟨("with_value", none), "with_value", "with_value", defArgs s_with_value, defBody s_with_value, defScope s_with_value, [], []⟩
def dd_point_of : He.DefD := ⟨("point_of", none), "point_of", "point_of", defArgs s_point_of, defBody s_point_of, defScope s_point_of, [], []⟩
def dd_parting : He.DefD := ⟨("parting", none), "parting", "parting", defArgs s_parting, defBody s_parting, defScope s_parting, [], []⟩
def dd__law_cell_at : He.DefD := ⟨("_law_cell_at", none), "_law_cell_at", "_law_cell_at", defArgs s__law_cell_at, defBody s__law_cell_at, defScope s__law_cell_at, [], []⟩
def dd__law_mixed : He.DefD := ⟨("_law_mixed", none), "_law_mixed", "_law_mixed", defArgs s__law_mixed, defBody s__law_mixed, defScope s__law_mixed, [], []⟩
def dd__law_drawn : He.DefD := ⟨("_law_drawn", none), "_law_drawn", "_law_drawn", defArgs s__law_drawn, defBody s__law_drawn, defScope s__law_drawn, [], []⟩
def dd__law_plain : He.DefD := ⟨("_law_plain", none), "_law_plain", "_law_plain", defArgs s__law_plain, defBody s__law_plain, defScope s__law_plain, [], []⟩
def dd_law : He.DefD := ⟨("law", none), "law", "law", defArgs s_law, defBody s_law, defScope s_law, [], []⟩
def fn : List He.DefD := [dd_box_of, dd_is_word, dd_moved, dd_tidy, dd_constant, dd_opposite, dd_added, dd_taken, dd_multiplied, dd_made, dd_forms, dd_power_of, dd_alike, dd_with_value, dd_point_of, dd_parting, dd__law_cell_at, dd__law_mixed, dd__law_drawn, dd__law_plain, dd_law]
def fa : List He.Fa := [.glo "box_of", .glo "is_word", .glo "moved", .glo "tidy", .glo "constant", .glo "opposite", .glo "added", .glo "taken", .glo "multiplied", .glo "made", .glo "forms", .glo "power_of", .glo "alike", .glo "with_value", .glo "point_of", .glo "parting", .glo "_law_cell_at", .glo "_law_mixed", .glo "_law_drawn", .glo "_law_plain", .glo "law", .free "len", .free "int", .free "str", .free "isinstance", .free "dict", .free "tuple", .free "zip", .free "range", .free "sorted", .int "MANY" (7), .str "FIGURES" "0123456789", .glo "DEEDS", .glo "NoKey", .exc "NoKey"]
def ts : List He.Tab := []
def tf : List He.Defn := []
def ex (K : PySem.W.Frag) : Bool := (He.tupB K "DEEDS" (k_DEEDS.map He.Dv.str) && true)
abbrev R : PySem.W.OpenRow := PySem.W.OpenLaw.row PySem.Challenge.rw_pocketpile_k43_whole_rows_told_otherwise
abbrev hk : PySem.W.Hook := He.hookX 5 fa fn ts tf ex
def ob (s : PySem.W.SharedT) : He.AlX := He.obsX 5 fa fn ts tf ex (HandSHeadRun.getT s)
theorem ob_eq (s : PySem.W.SharedT) : ob s = hk.obs s.abs := He.obsX_eq (HandSHeadRun.getT_eq s)
def names : List PySem.Str := (["PileError", "NoKey", "FIGURES", "DEEDS", "box_of", "is_word", "moved", "made", "MANY", "tidy", "added", "opposite", "taken", "multiplied", "constant", "forms", "power_of", "alike", "with_value", "point_of"] : List PySem.Str) ++ (["parting", "_law_cell_at", "_law_mixed", "_law_drawn", "_law_plain", "_law_setting"] : List PySem.Str)
theorem run (w : World) : HandSHeadRun.RunEq R (PySem.W.view R.prog [30]) hk ob 3000 names w := by
  intro os
  kernel_rfl
theorem top_of {w : World} {K : PySem.W.Frag} {h : Heap} {mg : Str → Option Value} (X : K.In h) (G : h.Ns mainGlobals mg) (c : He.SaysX fa fn ts tf ex w h K) : Top w K mg :=
  ⟨(c.t.d.def_ 0 (d := dd_box_of) rfl),
   (He.glo_ok X G (c.t.d.fact 0 (f := .glo "box_of") rfl)),
   (c.t.d.def_ 1 (d := dd_is_word) rfl),
   (He.glo_ok X G (c.t.d.fact 1 (f := .glo "is_word") rfl)),
   (c.t.d.def_ 2 (d := dd_moved) rfl),
   (He.glo_ok X G (c.t.d.fact 2 (f := .glo "moved") rfl)),
   (c.t.d.def_ 3 (d := dd_tidy) rfl),
   (He.glo_ok X G (c.t.d.fact 3 (f := .glo "tidy") rfl)),
   (c.t.d.def_ 4 (d := dd_constant) rfl),
   (He.glo_ok X G (c.t.d.fact 4 (f := .glo "constant") rfl)),
   (c.t.d.def_ 5 (d := dd_opposite) rfl),
   (He.glo_ok X G (c.t.d.fact 5 (f := .glo "opposite") rfl)),
   (c.t.d.def_ 6 (d := dd_added) rfl),
   (He.glo_ok X G (c.t.d.fact 6 (f := .glo "added") rfl)),
   (c.t.d.def_ 7 (d := dd_taken) rfl),
   (He.glo_ok X G (c.t.d.fact 7 (f := .glo "taken") rfl)),
   (c.t.d.def_ 8 (d := dd_multiplied) rfl),
   (He.glo_ok X G (c.t.d.fact 8 (f := .glo "multiplied") rfl)),
   (c.t.d.def_ 9 (d := dd_made) rfl),
   (He.glo_ok X G (c.t.d.fact 9 (f := .glo "made") rfl)),
   (c.t.d.def_ 10 (d := dd_forms) rfl),
   (He.glo_ok X G (c.t.d.fact 10 (f := .glo "forms") rfl)),
   (c.t.d.def_ 11 (d := dd_power_of) rfl),
   (He.glo_ok X G (c.t.d.fact 11 (f := .glo "power_of") rfl)),
   (c.t.d.def_ 12 (d := dd_alike) rfl),
   (He.glo_ok X G (c.t.d.fact 12 (f := .glo "alike") rfl)),
   (c.t.d.def_ 13 (d := dd_with_value) rfl),
   (He.glo_ok X G (c.t.d.fact 13 (f := .glo "with_value") rfl)),
   (c.t.d.def_ 14 (d := dd_point_of) rfl),
   (He.glo_ok X G (c.t.d.fact 14 (f := .glo "point_of") rfl)),
   (c.t.d.def_ 15 (d := dd_parting) rfl),
   (He.glo_ok X G (c.t.d.fact 15 (f := .glo "parting") rfl)),
   (c.t.d.def_ 16 (d := dd__law_cell_at) rfl),
   (He.glo_ok X G (c.t.d.fact 16 (f := .glo "_law_cell_at") rfl)),
   (c.t.d.def_ 17 (d := dd__law_mixed) rfl),
   (He.glo_ok X G (c.t.d.fact 17 (f := .glo "_law_mixed") rfl)),
   (c.t.d.def_ 18 (d := dd__law_drawn) rfl),
   (He.glo_ok X G (c.t.d.fact 18 (f := .glo "_law_drawn") rfl)),
   (c.t.d.def_ 19 (d := dd__law_plain) rfl),
   (He.glo_ok X G (c.t.d.fact 19 (f := .glo "_law_plain") rfl)),
   (c.t.d.def_ 20 (d := dd_law) rfl),
   (He.glo_ok X G (c.t.d.fact 20 (f := .glo "law") rfl)),
   (He.free_ok X G (c.t.d.fact 21 (f := .free "len") rfl)),
   (He.free_ok X G (c.t.d.fact 22 (f := .free "int") rfl)),
   (He.free_ok X G (c.t.d.fact 23 (f := .free "str") rfl)),
   (He.free_ok X G (c.t.d.fact 24 (f := .free "isinstance") rfl)),
   (He.free_ok X G (c.t.d.fact 25 (f := .free "dict") rfl)),
   (He.free_ok X G (c.t.d.fact 26 (f := .free "tuple") rfl)),
   (He.free_ok X G (c.t.d.fact 27 (f := .free "zip") rfl)),
   (He.free_ok X G (c.t.d.fact 28 (f := .free "range") rfl)),
   (He.free_ok X G (c.t.d.fact 29 (f := .free "sorted") rfl)),
   (He.int_ok X G (c.t.d.fact 30 (f := .int "MANY" (7)) rfl)),
   (He.str_ok X G (c.t.d.fact 31 (f := .str "FIGURES" "0123456789") rfl)),
   (He.glo_ok X G (c.t.d.fact 32 (f := .glo "DEEDS") rfl)),
   (fun H => tup_strs (He.tupB_ok (He.ba c.more).1 H)),
   (exc_n X G (c.t.d.fact 33 (f := .glo "NoKey") rfl) (c.t.d.fact 34 (f := .exc "NoKey") rfl))⟩
theorem law_end {l : PySem.W.OpenLaw} {w : World} {K : PySem.W.Frag} {h : Heap} {mg : Str → Option Value} {f : Addr} (X : K.In h) (G : h.Ns mainGlobals mg) (hfa : mg ("law" : Str) = some (.ref f)) (c : He.SaysX fa fn ts tf ex w h K) : LamX.LawAtS l w K (L2.CX l.prog w) 7 63 "script" mg f h := by
  have Z := top_of X G c
  have e := hfa.symm.trans Z.m_law
  cases e
  obtain ⟨fd, Fd⟩ := Z.f_law
  have b := FunD.bindsA (ps := ["script"]) Fd fun _ _ _ _ _ _ us hl => match us, hl with | [_], _ => rfl
  refine lawAt0 (fd := fd) (den := d_law) (fun s v => b s [v] rfl) law_true fun base h1 h2 => ?_
  exact law_fn Z Fd
end LW
open PySem PySem.W PySem.Calls PyProof.Rows
set_option maxRecDepth 100000 in
set_option maxHeartbeats 0 in
theorem PySem.Challenge.cw_pocketpile_k43_whole_rows_told_otherwise_holds : PySem.Challenge.rw_pocketpile_k43_whole_rows_told_otherwise.Holds := by
  w_on; o_law
  refine HandSHeadRun.head_any (r := OpenLaw.row PySem.Challenge.rw_pocketpile_k43_whole_rows_told_otherwise) (q := view (OpenLaw.row PySem.Challenge.rw_pocketpile_k43_whole_rows_told_otherwise).prog [30]) (H := LW.hk) (ob := LW.ob) (M := 3000) (loose := LW.names) (d := HandSHeadRun.topDef (OpenLaw.row PySem.Challenge.rw_pocketpile_k43_whole_rows_told_otherwise).prog 30) (kwd := []) LW.ob_eq
    (by kernel_rfl) (fun s => by kernel_rfl) LW.run (by kernel_rfl) (by kernel_rfl) (by kernel_rfl) (by rfl) (by first | assumption | decide +kernel) (by decide +kernel) ⟨rfl, rfl, rfl, rfl, rfl, by decide +kernel⟩ ?hw ?hc
  case hw => w_witness2
  case hc =>
    refine LamX.walk_ofTsE (l := PySem.Challenge.rw_pocketpile_k43_whole_rows_told_otherwise) (n := 63) (k := 7) (x := "script") (CX := fun w => L2.CX (PySem.Challenge.rw_pocketpile_k43_whole_rows_told_otherwise).prog w) rfl (by decide) (by kernel_rfl) ⟨rfl, by decide, by decide⟩ ?F (fun _ _ _ _ _ z => DN.cx_false z)
    intro w mg fa h Y G hmg0
    obtain ⟨K, KX, c⟩ := Y
    have hmg : mg ("law" : PySem.Str) = some (.ref fa) := by
      have e : (HandSHeadRun.topDef (OpenLaw.row PySem.Challenge.rw_pocketpile_k43_whole_rows_told_otherwise).prog 30).name = ("law" : PySem.Str) := by kernel_rfl
      rw [← e]
      exact hmg0
    exact ⟨K, KX, LW.law_end (l := PySem.Challenge.rw_pocketpile_k43_whole_rows_told_otherwise) KX G hmg c⟩
