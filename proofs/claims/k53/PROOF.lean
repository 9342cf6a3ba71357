import PyProof.Rows.All
import Wide.All
import OpenK.AllK
import Wide.FinOn
import PyProof.EqAt
import PyProof.EqKinds
import PyProof.TupleCall
import HandS.Base
import HandS.Call
import HandS.List
import HandS.Comp
import HandS.Ends
import HandS.Dict
import HandS.Iter
import HandS.Text
import HandS.Words
import HandS.WordsList
import HandS.WordsExc
import HandS.Exc
import HandS.ExcOwn
import HandS.Wide
import HandS.IsInst
import HandS.TupAny
import HandS.TupMul
import HandS.Lambda
import HandS.EndTab
import HandS.HeadWalk
import HandS.HeadHook1
import HandS.HeadHook2
import HandS.Defaults
import HandS.NoneIn
import HandS.Style
import KE.KDictDisplayH
import HandS.HeadEnd
import HandS.Head0
import HandS.Head1
import HandS.Head2
import HandS.HeadHook3
import HandS.HeadHook4
import HandS.Replace
import HandS.ExcIs
import HandS.Flt
import HandS.More
import HandS.TryMany
import HandS.CallLocal
import HandS.Strs
import HandS.ReplaceLit
import HandS.ReplaceList
import HandS.Zip
import PyProof.ReprRoads
import HandS.Deep
import KE.IntTextLaws
import PySem.Challenge.RW_pocketpile_k53_whole_rows_of_formulas
set_option Elab.async false
set_option linter.all false
set_option maxRecDepth 100000
set_option maxHeartbeats 4000000
/-! DN: a program's defs as plain functions of data. The heap is dealt with here, once. -/
namespace DN
open PySem PySem.Spec PyProof.Rows L2
open LamX (Tabs ExtN)

/-- data -/
inductive D where
  | non | bl (b : Bool) | int (i : Int) | str (x : Str) | lst (xs : List D) | tup (xs : List D) | fn (x : Str) | ty (n : String)
  | dK (kvs : List (Key × V)) | dT (kvs : List (List Key × V)) | arr (ns : List Int)
  /-- a tuple of texts that has no dict of its own -/
  | pro (xs : List Str)
  /-- a dict whose keys are nested tuples (an object of the frame's own) -/
  | dic (P : Program) (w : World) (ks vs : List D)
  /-- a thing known by its address alone -/
  | adr (a : Addr)
  /-- an instance of the class c, its attributes (an object of the frame's own) -/
  | ins (c : Str) (ns : List Str) (vs : List D)

/-- what comes: a value, an own error by its class's name, or nothing is promised -/
inductive Res (α : Type) where
  | ok (a : α) | ex (n : Str) | bad
def Res.bind {α β : Type} : Res α → (α → Res β) → Res β
  | .ok a, f => f a
  | .ex n, _ => .ex n
  | .bad, _ => .bad
def Res.map {α β : Type} (r : Res α) (f : α → β) : Res β := r.bind fun a => .ok (f a)
def ofO {α : Type} : Option α → Res α
  | some a => .ok a
  | none => .bad

mutual
inductive Rp (K : PySem.W.Frag) (H : Hp) : V → D → Prop
  | non : Rp K H .non .non
  | bl (b : Bool) : Rp K H (.bl b) (.bl b)
  | int (i : Int) : Rp K H (.int i) (.int i)
  | str (x : Str) : Rp K H (.str x) (.str x)
  | fn (x : Str) : Rp K H (.ref (He.ga K x)) (.fn x)
  | ty (n : String) : Rp K H (.ty n) (.ty n)
  | lst {a : Addr} {xs : List V} {ds : List D} : H a = some (.lst xs) → RpAll K H xs ds → Rp K H (.ref a) (.lst ds)
  | tup {a : Addr} {xs : List V} {ds : List D} : SqT K H a xs → RpAll K H xs ds → Rp K H (.ref a) (.tup ds)
  | dK {a : Addr} {kvs : List (Key × V)} : H a = some (.dK kvs) → Rp K H (.ref a) (.dK kvs)
  | dT {a : Addr} {kvs : List (List Key × V)} : H a = some (.dT kvs) → Rp K H (.ref a) (.dT kvs)
  | arr {a : Addr} {ns : List Int} : SqL K H a (ns.map V.int) → Rp K H (.ref a) (.arr ns)
  | pro {a : Addr} {xs : List Str} : (∃ o : Obj, o.cls = .type "tuple" ∧ o.dict = none ∧ H a = some (.frz o (.tup (xs.map V.str)))) → Rp K H (.ref a) (.pro xs)
  | adr (a : Addr) : Rp K H (.ref a) (.adr a)
inductive RpAll (K : PySem.W.Frag) (H : Hp) : List V → List D → Prop
  | nil : RpAll K H [] []
  | cons {v : V} {vs : List V} {d : D} {ds : List D} : Rp K H v d → RpAll K H vs ds → RpAll K H (v :: vs) (d :: ds)
end

def Sub (F H : Hp) : Prop := ∀ a o, F a = some o → H a = some o
theorem Sub.refl (F : Hp) : Sub F F := fun _ _ h => h
theorem Sub.trans {F G H : Hp} (a : Sub F G) (b : Sub G H) : Sub F H := fun x o h => b x o (a x o h)
theorem Sub.rd {F H : Hp} {a : Addr} {u : HO} (e : Sub F H) (h : Rd F a u) : Rd H a u := by
  rcases h with h | ⟨o, h⟩
  · exact .inl (e _ _ h)
  · exact .inr ⟨o, e _ _ h⟩
theorem Sub.sl {K : PySem.W.Frag} {F H : Hp} {a : Addr} {xs : List V} (e : Sub F H) (h : SqL K F a xs) : SqL K H a xs := h.elim (fun h => .inl (e.rd h)) .inr
theorem Sub.st {K : PySem.W.Frag} {F H : Hp} {a : Addr} {xs : List V} (e : Sub F H) (h : SqT K F a xs) : SqT K H a xs := h.elim (fun h => .inl (e.rd h)) .inr
mutual
theorem Rp.mono {K : PySem.W.Frag} {F H : Hp} (e : Sub F H) : ∀ {v : V} {d : D}, Rp K F v d → Rp K H v d
  | _, _, .non => .non
  | _, _, .bl b => .bl b
  | _, _, .int i => .int i
  | _, _, .str x => .str x
  | _, _, .fn x => .fn x
  | _, _, .ty n => .ty n
  | _, _, .lst h t => .lst (e _ _ h) (RpAll.mono e t)
  | _, _, .tup h t => .tup (e.st h) (RpAll.mono e t)
  | _, _, .dK h => .dK (e _ _ h)
  | _, _, .dT h => .dT (e _ _ h)
  | _, _, .arr h => .arr (e.sl h)
  | _, _, .pro ⟨o, h1, h2, h3⟩ => .pro ⟨o, h1, h2, e _ _ h3⟩
  | _, _, .adr a => .adr a
theorem RpAll.mono {K : PySem.W.Frag} {F H : Hp} (e : Sub F H) : ∀ {vs : List V} {ds : List D}, RpAll K F vs ds → RpAll K H vs ds
  | _, _, .nil => .nil
  | _, _, .cons h t => .cons (Rp.mono e h) (RpAll.mono e t)
end
section
variable {K : PySem.W.Frag} {F H : Hp}
theorem RpAll.length : ∀ {vs : List V} {ds : List D}, RpAll K F vs ds → vs.length = ds.length
  | _, _, .nil => rfl
  | _, _, .cons _ t => by rw [List.length_cons, List.length_cons, RpAll.length t]
theorem RpAll.get : ∀ {vs : List V} {ds : List D} {i : Nat} {d : D}, RpAll K F vs ds → ds[i]? = some d → ∃ v, vs[i]? = some v ∧ Rp K F v d
  | _, _, _, _, .nil, e => by simp at e
  | _, _, 0, _, .cons h _, e => by
    simp at e; subst e; exact ⟨_, rfl, h⟩
  | _, _, i + 1, d, .cons _ t, e => by
    obtain ⟨v, h1, h2⟩ := RpAll.get (i := i) (d := d) t (by simpa using e)
    exact ⟨v, by simpa using h1, h2⟩
theorem RpAll.append : ∀ {vs ws : List V} {ds es : List D}, RpAll K F vs ds → RpAll K F ws es → RpAll K F (vs ++ ws) (ds ++ es)
  | _, _, _, _, .nil, s => s
  | _, _, _, _, .cons h t, s => .cons h (RpAll.append t s)
theorem RpAll.take : ∀ {vs : List V} {ds : List D} (n : Nat), RpAll K F vs ds → RpAll K F (vs.take n) (ds.take n)
  | _, _, 0, _ => by simp; exact .nil
  | _, _, _ + 1, .nil => .nil
  | _, _, n + 1, .cons h t => .cons h (RpAll.take n t)
theorem RpAll.drop : ∀ {vs : List V} {ds : List D} (n : Nat), RpAll K F vs ds → RpAll K F (vs.drop n) (ds.drop n)
  | _, _, 0, r => r
  | _, _, _ + 1, .nil => .nil
  | _, _, n + 1, .cons _ t => RpAll.drop n t
theorem RpAll.ints : ∀ (ns : List Int), RpAll K F (ns.map V.int) (ns.map D.int)
  | [] => .nil
  | n :: ns => .cons (.int n) (RpAll.ints ns)
end

/-- the frozen part F of H -/
structure Fz (F H : Hp) : Prop where
  sub : Sub F H
  nt : ∀ a ps, F a ≠ some (.tbl ps)
/-- from (F, H) to (F', H') -/
structure Nx (T : List (Addr × Str)) (F H F' H' : Hp) : Prop where
  f : Sub F F'
  z : Fz F' H'
  h : ExtN H H'
  new : ∀ a o, F' a = some o → F a = some o ∨ ∀ o', H a = some o' → ∃ ps, o' = .tbl ps
  tab : Tabs T H → Tabs T H'
section
variable {T : List (Addr × Str)} {F H F1 H1 F2 H2 : Hp}
theorem Nx.refl (z : Fz F H) : Nx T F H F H := ⟨Sub.refl F, z, ExtN.refl H, fun _ _ h => .inl h, fun h => h⟩
theorem Nx.trans (a : Nx T F H F1 H1) (b : Nx T F1 H1 F2 H2) : Nx T F H F2 H2 where
  f := a.f.trans b.f
  z := b.z
  h := a.h.trans b.h
  new := fun x o e => by
    rcases b.new x o e with h | h
    · exact a.new x o h
    · refine .inr fun o' e' => ?_
      by_cases q : ∃ ps, o' = .tbl ps
      · exact q
      · exact h o' (a.h x o' e' fun ps z => q ⟨ps, z⟩)
  tab := fun h => b.tab (a.tab h)
/-- a new object that is frozen from its begin -/
theorem Nx.push {p : Addr} {o : HO} (z : Fz F H) (hp : H p = none) (ho : ∀ ps, o ≠ .tbl ps) : Nx T F H (upd F p o) (upd H p o) := by
  have fp : F p = none := by
    cases q : F p with
    | none => rfl
    | some u =>
      have := z.sub _ _ q
      rw [hp] at this; cases this
  refine ⟨fun a u e => ?_, ⟨fun a u e => ?_, fun a ps e => ?_⟩, fun b u e _ => ?_, fun a u e => ?_, fun t => t.ext fun b u e => ?_⟩
  · rw [upd_ne (ne_of_none e fp)]; exact e
  · by_cases h : a = p
    · subst h; rw [upd_same] at e ⊢; exact e
    · rw [upd_ne h] at e ⊢; exact z.sub _ _ e
  · by_cases h : a = p
    · subst h; rw [upd_same] at e; exact ho ps (Option.some.inj e)
    · rw [upd_ne h] at e; exact z.nt _ _ e
  · rw [upd_ne (ne_of_none e hp)]; exact e
  · by_cases h : a = p
    · subst h; exact .inr fun o' e' => by rw [hp] at e'; cases e'
    · rw [upd_ne h] at e; exact .inl e
  · rw [upd_ne (ne_of_none e hp)]; exact e
/-- a new object that is not frozen -/
theorem Nx.lay {p : Addr} {o : HO} (z : Fz F H) (hp : H p = none) : Nx T F H F (upd H p o) := by
  refine ⟨Sub.refl F, ⟨fun a u e => ?_, z.nt⟩, fun b u e _ => ?_, fun a u e => .inl e, fun t => t.ext fun b u e => ?_⟩
  · rw [upd_ne (ne_of_none (z.sub _ _ e) hp)]; exact z.sub _ _ e
  · rw [upd_ne (ne_of_none e hp)]; exact e
  · rw [upd_ne (ne_of_none e hp)]; exact e
theorem Nx.keep (n : Nx T F H F1 H1) {a : Addr} {o : HO} (e : H a = some o) (ho : ∀ ps, o ≠ .tbl ps) : H1 a = some o := n.h a o e ho
theorem Nx.out (n : Nx T F H F1 H1) {a : Addr} {o : HO} (e : H a = some o) (ho : ∀ ps, o ≠ .tbl ps) (hf : F a = none) : F1 a = none := by
  cases q : F1 a with
  | none => rfl
  | some u =>
    rcases n.new a u q with h | h
    · rw [hf] at h; cases h
    · obtain ⟨ps, z⟩ := h o e
      exact absurd z (ho ps)
end

/-- a slot: nothing is known; frozen data; an object of the frame's own -/
inductive En where
  | u | z (d : D) | o (d : D)
abbrev Rho := List En
/-! dicts of nested keys -/
mutual
def D.key : D → Option NestedKey
  | .non => some .none
  | .bl b => some (.num (if b = true then 1 else 0))
  | .int i => some (.num i)
  | .str x => some (.text x)
  | .tup ds => (D.keys ds).map .tup
  | _ => none
def D.keys : List D → Option (List NestedKey)
  | [] => some []
  | d :: ds => (D.key d).bind fun k => (D.keys ds).map fun ks => k :: ks
end
def EntR (p : NestedKey × Addr × V) (q : NestedKey × Addr × Value) : Prop := p.1 = q.1 ∧ p.2.1 = q.2.1 ∧ RelV p.2.2 q.2.2
/-- the dict at a: its keys (the tuples' addresses) and values -/
def DicO (P : Program) (w : World) (a : Addr) (es : List (NestedKey × Addr × V)) : HO := .ext fun h => (a == sysModules) = false ∧ es.length ≤ sizeLine ∧ ∃ xs : List (NestedKey × Addr × Value), Paired EntR es xs ∧
  ∃ o ents ep, h.get? a = some o ∧ o.ExactDict ∧ o.data = .dict ents ep ∧ ents.toList = xs.map (entryOfKey (nestedKind P w)) ∧ (xs.map (·.1)).Nodup
inductive DicR (K : PySem.W.Frag) (F : Hp) : List (NestedKey × Addr × V) → List D → List D → Prop
  | nil : DicR K F [] [] []
  | cons {n : NestedKey} {a : Addr} {v : V} {es : List (NestedKey × Addr × V)} {k d : D} {ks vs : List D} : k.key = some n → n.depth ≤ 8 → Rp K F (.ref a) k → Rp K F v d → DicR K F es ks vs → DicR K F ((n, a, v) :: es) (k :: ks) (d :: vs)
theorem DicR.mono {K : PySem.W.Frag} {F F' : Hp} (e : Sub F F') {es : List (NestedKey × Addr × V)} {ks vs : List D} (h : DicR K F es ks vs) : DicR K F' es ks vs := by
  induction h with
  | nil => exact .nil
  | cons h1 h2 h3 h4 _ ih => exact .cons h1 h2 (h3.mono e) (h4.mono e) ih
/-- the object at p, not frozen, is d -/
def OwnAt (K : PySem.W.Frag) (F H : Hp) (p : Addr) : D → Prop
  | .lst ds => ∃ xs, H p = some (.lst xs) ∧ RpAll K F xs ds
  | .dK kvs => H p = some (.dK kvs)
  | .dT kvs => H p = some (.dT kvs)
  | .dic P w ks vs => ∃ es, H p = some (DicO P w p es) ∧ DicR K F es ks vs
  | .ins c ns vs => ∃ dx ws, H p = some (.ins (He.ga K c) dx (ns.zip ws)) ∧ RpAll K F ws vs
  | _ => False
theorem OwnAt.solid {K : PySem.W.Frag} {F H : Hp} {p : Addr} : ∀ {d : D}, OwnAt K F H p d → ∃ o, H p = some o ∧ ∀ ps, o ≠ .tbl ps
  | .lst ds, ⟨xs, h, _⟩ => ⟨_, h, fun ps z => by cases z⟩
  | .dK kvs, h => ⟨_, h, fun ps z => by cases z⟩
  | .dT kvs, h => ⟨_, h, fun ps z => by cases z⟩
  | .dic P w ks vs, ⟨es, h, _⟩ => ⟨_, h, fun ps z => by unfold DicO at z; cases z⟩
  | .ins c ns vs, ⟨dx, ws, h, _⟩ => ⟨_, h, fun ps z => by cases z⟩
  | .non, h => h.elim
  | .bl _, h => h.elim
  | .int _, h => h.elim
  | .str _, h => h.elim
  | .tup _, h => h.elim
  | .fn _, h => h.elim
  | .ty _, h => h.elim
  | .arr _, h => h.elim
  | .pro _, h => h.elim
  | .adr _, h => h.elim
theorem OwnAt.mono {K : PySem.W.Frag} {T : List (Addr × Str)} {F H F' H' : Hp} {p : Addr} (n : Nx T F H F' H') : ∀ {d : D}, OwnAt K F H p d → OwnAt K F' H' p d
  | .lst ds, ⟨xs, h, r⟩ => ⟨xs, n.keep h fun ps z => (by cases z), RpAll.mono n.f r⟩
  | .dK kvs, h => n.keep h fun ps z => (by cases z)
  | .dT kvs, h => n.keep h fun ps z => (by cases z)
  | .dic P w ks vs, ⟨es, h, r⟩ => ⟨es, n.keep h fun ps z => (by unfold DicO at z; cases z), r.mono n.f⟩
  | .ins c ns vs, ⟨dx, ws, h, r⟩ => ⟨dx, ws, n.keep h fun ps z => (by cases z), r.mono n.f⟩
  | .non, h => h.elim
  | .bl _, h => h.elim
  | .int _, h => h.elim
  | .str _, h => h.elim
  | .tup _, h => h.elim
  | .fn _, h => h.elim
  | .ty _, h => h.elim
  | .arr _, h => h.elim
  | .pro _, h => h.elim
  | .adr _, h => h.elim
structure Rl (K : PySem.W.Frag) (F H : Hp) (σ : L2.St) (ρ : Rho) : Prop where
  len : σ.length = ρ.length
  z : ∀ (i : Nat) (d : D), ρ[i]? = some (En.z d) → ∃ v, σ[i]? = some (some v) ∧ Rp K F v d
  o : ∀ (i : Nat) (d : D), ρ[i]? = some (En.o d) → ∃ p, σ[i]? = some (some (V.ref p)) ∧ F p = none ∧ OwnAt K F H p d
  ne : ∀ (i j : Nat) (d e : D) (p q : Addr), i ≠ j → ρ[i]? = some (En.o d) → ρ[j]? = some (En.o e) → σ[i]? = some (some (V.ref p)) → σ[j]? = some (some (V.ref q)) → p ≠ q
section
variable {K : PySem.W.Frag} {T : List (Addr × Str)} {F H F' H' : Hp} {σ : L2.St} {ρ : Rho}
theorem Rl.mono (n : Nx T F H F' H') (r : Rl K F H σ ρ) : Rl K F' H' σ ρ where
  len := r.len
  z := fun i d e => let ⟨v, h1, h2⟩ := r.z i d e; ⟨v, h1, h2.mono n.f⟩
  o := fun i d e => by
    obtain ⟨p, h1, h2, h3⟩ := r.o i d e
    obtain ⟨o, h4, h5⟩ := h3.solid
    exact ⟨p, h1, n.out h4 h5 h2, h3.mono n⟩
  ne := r.ne
theorem Rl.set {i : Nat} {v : V} {d : D} (r : Rl K F H σ ρ) (h : Rp K F v d) : Rl K F H (σ.set i (some v)) (ρ.set i (.z d)) where
  len := by rw [List.length_set, List.length_set]; exact r.len
  z := fun j e hj => by
    rw [List.getElem?_set] at hj ⊢
    by_cases hij : i = j
    · subst hij
      rw [if_pos rfl] at hj ⊢
      by_cases hl : i < ρ.length
      · rw [if_pos hl] at hj
        rw [if_pos (by rw [r.len]; exact hl)]
        cases hj
        exact ⟨v, rfl, h⟩
      · rw [if_neg hl] at hj; cases hj
    · rw [if_neg hij] at hj ⊢
      exact r.z j e hj
  o := fun j e hj => by
    rw [List.getElem?_set] at hj ⊢
    by_cases hij : i = j
    · subst hij
      rw [if_pos rfl] at hj
      by_cases hl : i < ρ.length
      · rw [if_pos hl] at hj; cases hj
      · rw [if_neg hl] at hj; cases hj
    · rw [if_neg hij] at hj ⊢
      exact r.o j e hj
  ne := fun j k a b p q hn h1 h2 h3 h4 => by
    rw [List.getElem?_set] at h1 h2 h3 h4
    have fj : i ≠ j := fun z => by
      rw [if_pos z] at h1; split at h1 <;> cases h1
    have fk : i ≠ k := fun z => by
      rw [if_pos z] at h2; split at h2 <;> cases h2
    rw [if_neg fj] at h1 h3
    rw [if_neg fk] at h2 h4
    exact r.ne j k a b p q hn h1 h2 h3 h4
theorem Rl.wipe1 {i : Nat} (r : Rl K F H σ ρ) : Rl K F H (σ.set i none) (ρ.set i .u) where
  len := by rw [List.length_set, List.length_set]; exact r.len
  z := fun j e hj => by
    rw [List.getElem?_set] at hj ⊢
    by_cases hij : i = j
    · subst hij
      rw [if_pos rfl] at hj
      split at hj <;> cases hj
    · rw [if_neg hij] at hj ⊢
      exact r.z j e hj
  o := fun j e hj => by
    rw [List.getElem?_set] at hj ⊢
    by_cases hij : i = j
    · subst hij
      rw [if_pos rfl] at hj
      split at hj <;> cases hj
    · rw [if_neg hij] at hj ⊢
      exact r.o j e hj
  ne := fun j k a b p q hn h1 h2 h3 h4 => by
    rw [List.getElem?_set] at h1 h2 h3 h4
    have fj : i ≠ j := fun z => by
      rw [if_pos z] at h1; split at h1 <;> cases h1
    have fk : i ≠ k := fun z => by
      rw [if_pos z] at h2; split at h2 <;> cases h2
    rw [if_neg fj] at h1 h3
    rw [if_neg fk] at h2 h4
    exact r.ne j k a b p q hn h1 h2 h3 h4
end

/-! ### readings by functions of data -/
/-- what is wanted behind: of an α that stands for the β -/
def aft {α β : Type} (R : Hp → α → β → Prop) (K : PySem.W.Frag) (T : List (Addr × Str)) (W : WX) (σ : L2.St) (F H : Hp) (Q : α → Hp → Prop) : Res β → Prop
  | .ok b => ∀ a F' H', Nx T F H F' H' → R F' a b → Q a H'
  | .ex n => ∀ F' H', Nx T F H F' H' → W (.ref (He.ga K n)) none σ H'
  | .bad => False
abbrev RBool : Hp → Bool → Bool → Prop := fun _ a b => a = b
/-- where one stands -/
structure At (K : PySem.W.Frag) (T : List (Addr × Str)) (F H : Hp) (σ : L2.St) (ρ : Rho) : Prop where
  z : Fz F H
  t : Tabs T H
  r : Rl K F H σ ρ
theorem At.nx {K : PySem.W.Frag} {T : List (Addr × Str)} {F H F' H' : Hp} {σ : L2.St} {ρ : Rho} (a : At K T F H σ ρ) (n : Nx T F H F' H') : At K T F' H' σ ρ := ⟨n.z, n.tab a.t, a.r.mono n⟩
def tG {α β : Type} (R : PySem.W.Frag → Hp → α → β → Prop) (K : PySem.W.Frag) (T : List (Addr × Str)) (W : WX) (f : Rho → Res β) : L2.St → Hp → (α → Hp → Prop) → Prop :=
  fun σ H Q => ∃ ρ F, At K T F H σ ρ ∧ aft (R K) K T W σ F H Q (f ρ)
def tE (K : PySem.W.Frag) (T : List (Addr × Str)) (W : WX) (f : Rho → Res D) : TE := tG Rp K T W f
def tA (K : PySem.W.Frag) (T : List (Addr × Str)) (W : WX) (f : Rho → Res (List D)) : TA := tG RpAll K T W f
def tT (K : PySem.W.Frag) (T : List (Addr × Str)) (W : WX) (f : Rho → Res Bool) : TT := tG (fun _ => RBool) K T W f
section
variable {K : PySem.W.Frag} {T : List (Addr × Str)} {W : WX} {σ : L2.St} {F H F' H' : Hp}
theorem aft.mono {α β : Type} {R : Hp → α → β → Prop} {Q : α → Hp → Prop} {r : Res β} (n : Nx T F H F' H') (h : aft R K T W σ F H Q r) : aft R K T W σ F' H' Q r := by
  cases r with
  | ok b => exact fun a F2 H2 n2 ra => h a F2 H2 (n.trans n2) ra
  | ex m => exact fun F2 H2 n2 => h F2 H2 (n.trans n2)
  | bad => exact h
theorem aft.imp {α β : Type} {R : Hp → α → β → Prop} {Q Q' : α → Hp → Prop} {r : Res β} (h : aft R K T W σ F H Q r) (hq : ∀ b, r = .ok b → ∀ a F' H', Nx T F H F' H' → R F' a b → Q a H' → Q' a H') : aft R K T W σ F H Q' r := by
  cases r with
  | ok b => exact fun a F2 H2 n ra => hq b rfl a F2 H2 n ra (h a F2 H2 n ra)
  | ex m => exact h
  | bad => exact h
/-- one thing behind another -/
theorem aft.bind {α β γ δ : Type} {R : Hp → α → β → Prop} {S : Hp → γ → δ → Prop} {Q : γ → Hp → Prop} {r : Res β} {k : β → Res δ} (h : aft S K T W σ F H Q (r.bind k)) :
    aft R K T W σ F H (fun a H1 => ∃ b F1, r = .ok b ∧ Nx T F H F1 H1 ∧ R F1 a b ∧ aft S K T W σ F1 H1 Q (k b)) r := by
  cases r with
  | ok b => exact fun a F2 H2 n ra => ⟨b, F2, rfl, n, ra, aft.mono n h⟩
  | ex m => exact h
  | bad => exact h
theorem aft.ok {α β : Type} {R : Hp → α → β → Prop} {Q : α → Hp → Prop} {b : β} {a : α} {F1 H1 : Hp} (h : aft R K T W σ F H Q (.ok b)) (n : Nx T F H F1 H1) (ra : R F1 a b) : Q a H1 := h a F1 H1 n ra
end
/-- a judgement is weakened -/
theorem _root_.L2.PE.to {X : Cx} {e : Expr} {t u : TE} (h : PE X e t) (k : ∀ σ H Q, u σ H Q → t σ H Q) : PE X e u := ⟨fun pins s σ H Q I q => h.run pins s σ H Q I (k σ H Q q)⟩
theorem _root_.L2.PT.to {X : Cx} {e : Expr} {t u : TT} (h : PT X e t) (k : ∀ σ H Q, u σ H Q → t σ H Q) : PT X e u := ⟨fun pins s σ H Q I q => h.run pins s σ H Q I (k σ H Q q)⟩
theorem _root_.L2.PW.to {X : Cx} {e : Expr} {t u : TT} (h : PW X e t) (k : ∀ σ H Q, u σ H Q → t σ H Q) : PW X e u := ⟨fun whole pins s σ H Q I q => h.run whole pins s σ H Q I (k σ H Q q)⟩
theorem _root_.L2.PA.to {X : Cx} {es : List Expr} {t u : TA} (h : PA X es t) (k : ∀ σ H Q, u σ H Q → t σ H Q) : PA X es u := ⟨fun pos pins s σ H Q I q => h.run pos pins s σ H Q I (k σ H Q q)⟩
theorem _root_.L2.PS.to {X : Cx} {st : Stmt} {t u : TS} (h : PS X st t) (k : ∀ D σ H, u D σ H → t D σ H) : PS X st u := ⟨fun pins s σ H D I q => h.run pins s σ H D I (k D σ H q)⟩
theorem _root_.L2.PSs.to {X : Cx} {st : List Stmt} {t u : TS} (h : PSs X st t) (k : ∀ D σ H, u D σ H → t D σ H) : PSs X st u := ⟨fun pins s σ H D I q => h.run pins s σ H D I (k D σ H q)⟩

/-! ### names, constants, arguments -/
section
variable {X : Cx} {T : List (Addr × Str)} {W : WX}
abbrev DE (X : Cx) (T : List (Addr × Str)) (W : WX) (e : Expr) (f : Rho → Res D) : Prop := PE X e (tE X.K T W f)
abbrev DQ (X : Cx) (T : List (Addr × Str)) (W : WX) (e : Expr) (f : Rho → Res Bool) : Prop := PT X e (tT X.K T W f)
abbrev DW (X : Cx) (T : List (Addr × Str)) (W : WX) (e : Expr) (f : Rho → Res Bool) : Prop := PW X e (tT X.K T W f)
abbrev DA (X : Cx) (T : List (Addr × Str)) (W : WX) (es : List Expr) (f : Rho → Res (List D)) : Prop := PA X es (tA X.K T W f)

def var (i : Nat) : Rho → Res D := fun ρ => match ρ[i]? with
  | some (.z d) => .ok d
  | _ => .bad
theorem e_var {i : Nat} {x : Str} {pos : Pos} (h : PE X (.Name x pos) (tVar i)) : DE X T W (.Name x pos) (var i) := h.to fun σ H Q hq => by
  obtain ⟨ρ, F, a, h⟩ := hq
  unfold var at h
  cases e : ρ[i]? with
  | none => rw [e] at h; exact h.elim
  | some en =>
    rw [e] at h
    cases en with
    | u => exact h.elim
    | o d => exact h.elim
    | z d =>
      obtain ⟨v, h1, h2⟩ := a.r.z i d e
      exact ⟨v, h1, h v F H (Nx.refl a.z) h2⟩
def con (d : D) : Rho → Res D := fun _ => .ok d
theorem e_c {e : Expr} {v : V} {d : D} (h : PE X e (tC v)) (r : ∀ F, Rp X.K F v d) : DE X T W e (con d) := h.to fun σ H Q ⟨ρ, F, a, h⟩ => h v F H (Nx.refl a.z) (r F)
theorem e_int {i j pos} : DE X T W (.Constant (.int i) j pos) (con (.int i)) := e_c pe_int fun _ => .int i
theorem e_bl {b j pos} : DE X T W (.Constant (.bool b) j pos) (con (.bl b)) := e_c pe_bl fun _ => .bl b
theorem e_str {x j pos} : DE X T W (.Constant (.str x) j pos) (con (.str x)) := e_c pe_str fun _ => .str x

def anil : Rho → Res (List D) := fun _ => .ok []
def acons (f : Rho → Res D) (g : Rho → Res (List D)) : Rho → Res (List D) := fun ρ => (f ρ).bind fun d => (g ρ).bind fun ds => .ok (d :: ds)
theorem a_nil : DA X T W [] anil := pa_nil.to fun σ H Q ⟨ρ, F, a, h⟩ => h [] F H (Nx.refl a.z) .nil
theorem a_cons {e : Expr} {es : List Expr} {f : Rho → Res D} {g : Rho → Res (List D)} (he : DE X T W e f) (hs : DA X T W es g) (hstar : starEach (e :: es) X.env = (false, eval e X.env) :: starEach es X.env := by rfl) : DA X T W (e :: es) (acons f g) :=
  (pa_cons he hs hstar).to fun σ H Q ⟨ρ, F, a, h⟩ => by
    refine ⟨ρ, F, a, (aft.bind (R := Rp X.K) h).imp fun d _ v F1 H1 _ _ q => ?_⟩
    obtain ⟨b, F2, _, n, rv, q⟩ := q
    refine ⟨ρ, F2, a.nx n, (aft.bind (R := RpAll X.K) q).imp fun ds _ vs F3 H3 _ _ q => ?_⟩
    obtain ⟨ds', F4, _, n2, rs, q⟩ := q
    exact q.ok (Nx.refl n2.z) (.cons (rv.mono n2.f) rs)
end
end DN
namespace DN
open PySem PySem.Spec PyProof.Rows L2
open LamX (Tabs ExtN)
open PySem.Builtin.Str (tooLong)

/-! ### operators -/
/-- an operation on values, by a function of data -/
def rD2 (K : PySem.W.Frag) (T : List (Addr × Str)) (G : D → D → Option D) : R2 := fun x y H Q =>
  ∃ F d e z, Fz F H ∧ Rp K F x d ∧ Rp K F y e ∧ G d e = some z ∧ ∀ v F' H', Nx T F H F' H' → Rp K F' v z → Q v H'
def rD1 (K : PySem.W.Frag) (T : List (Addr × Str)) (G : D → Option D) : V → Hp → VK → Prop := fun x H Q =>
  ∃ F d z, Fz F H ∧ Rp K F x d ∧ G d = some z ∧ ∀ v F' H', Nx T F H F' H' → Rp K F' v z → Q v H'
def rDn (K : PySem.W.Frag) (T : List (Addr × Str)) (G : List D → Option D) : List V → Hp → VK → Prop := fun xs H Q =>
  ∃ F ds z, Fz F H ∧ RpAll K F xs ds ∧ G ds = some z ∧ ∀ v F' H', Nx T F H F' H' → Rp K F' v z → Q v H'
def bop (G : D → D → Option D) (f g : Rho → Res D) : Rho → Res D := fun ρ => (f ρ).bind fun d => (g ρ).bind fun e => ofO (G d e)
def una (G : D → Option D) (f : Rho → Res D) : Rho → Res D := fun ρ => (f ρ).bind fun d => ofO (G d)
def cal (G : List D → Option D) (f : Rho → Res (List D)) : Rho → Res D := fun ρ => (f ρ).bind fun ds => ofO (G ds)
section
variable {X : Cx} {T : List (Addr × Str)} {W : WX}
theorem ofO_ok {α : Type} {o : Option α} {K : PySem.W.Frag} {σ : L2.St} {F H : Hp} {β : Type} {R : Hp → β → α → Prop} {Q : β → Hp → Prop} (h : aft R K T W σ F H Q (ofO o)) : ∃ a, o = some a ∧ ∀ b F' H', Nx T F H F' H' → R F' b a → Q b H' := by
  cases o with
  | none => exact h.elim
  | some a => exact ⟨a, rfl, h⟩
theorem bin_to {K : PySem.W.Frag} {G : D → D → Option D} {f g : Rho → Res D} {σ : L2.St} {H : Hp} {Q : VK} (h : tE K T W (bop G f g) σ H Q) : tOp (rD2 K T G) (tE K T W f) (tE K T W g) σ H Q := by
  obtain ⟨ρ, F, a, h⟩ := h
  refine ⟨ρ, F, a, (aft.bind (R := Rp K) h).imp fun d _ v F1 H1 _ _ q => ?_⟩
  obtain ⟨b, F2, _, n, rv, q⟩ := q
  refine ⟨ρ, F2, a.nx n, (aft.bind (R := Rp K) q).imp fun ds _ vs F3 H3 _ _ q => ?_⟩
  obtain ⟨e, F4, _, n2, rs, q⟩ := q
  obtain ⟨z, hz, q⟩ := ofO_ok q
  exact ⟨F4, b, e, z, n2.z, rv.mono n2.f, rs, hz, q⟩
theorem e_bin {op : Operator} {G : D → D → Option D} {a b : Expr} {f g : Rho → Res D} {pos : Pos} (ho : OpR X (binaryOp op) (rD2 X.K T G)) (ha : DE X T W a f) (hb : DE X T W b g) : DE X T W (.BinOp a op b pos) (bop G f g) :=
  (pe_op ho ha hb).to fun _ _ _ h => bin_to h
theorem e_una {op : UnaryOp} {G : D → Option D} {a : Expr} {f : Rho → Res D} {pos : Pos} (ho : UnR X (unaryOp op) (rD1 X.K T G)) (ha : DE X T W a f) : DE X T W (.UnaryOp op a pos) (una G f) :=
  (pe_un ho ha).to fun σ H Q ⟨ρ, F, a, h⟩ => by
    refine ⟨ρ, F, a, (aft.bind (R := Rp X.K) h).imp fun d _ v F1 H1 _ _ q => ?_⟩
    obtain ⟨b, F2, _, n, rv, q⟩ := q
    obtain ⟨z, hz, q⟩ := ofO_ok q
    exact ⟨F2, b, z, n.z, rv, hz, q⟩
theorem e_cmp {op : CmpOp} {G : D → D → Option D} {a b : Expr} {f g : Rho → Res D} {pos : Pos} (ho : OpR X (compareOp op) (rD2 X.K T G)) (ha : DE X T W a f) (hb : DE X T W b g) (hm : behindInMarks op b = false) : DE X T W (.Compare a [op] [b] pos) (bop G f g) :=
  (pe_cmpR ho ha hb hm).to fun _ _ _ h => bin_to h
/-- a comparison's answer -/
def ans : D → Res Bool
  | .bl b => .ok b
  | _ => .bad
def tst (f : Rho → Res D) : Rho → Res Bool := fun ρ => (f ρ).bind ans
theorem tst_to {K : PySem.W.Frag} {f : Rho → Res D} {σ : L2.St} {H : Hp} {Q : Bool → Hp → Prop} (h : tT K T W (tst f) σ H Q) : tE K T W f σ H fun x H' => ∃ k, x = .bl k ∧ Q k H' := by
  obtain ⟨ρ, F, a, h⟩ := h
  refine ⟨ρ, F, a, (aft.bind (R := Rp K) h).imp fun d _ v F1 H1 _ _ q => ?_⟩
  obtain ⟨b, F2, _, n, rv, q⟩ := q
  cases b with
  | bl k =>
    cases rv
    exact ⟨k, rfl, q k F2 H1 (Nx.refl n.z) rfl⟩
  | _ => exact q.elim
theorem q_cmp {op : CmpOp} {G : D → D → Option D} {a b : Expr} {f g : Rho → Res D} {pos : Pos} (ho : OpR X (compareOp op) (rD2 X.K T G)) (ha : DE X T W a f) (hb : DE X T W b g) (hm : behindInMarks op b = false) : DQ X T W (.Compare a [op] [b] pos) (tst (bop G f g)) :=
  (pt_cmpR ho ha hb hm).to fun σ H Q h => by
    have h2 := tst_to h
    exact bin_to h2
end

/-! the operators' functions -/
def CMulD (i j : Int) : Prop := CMul i j ∨ CMulW i j
instance : Decidable (CMulD i j) := by unfold CMulD CMul CMulW; infer_instance
instance : Decidable (CDivW i j) := by unfold CDivW; infer_instance
def repS (x : Str) (n : Int) : Str := ⟨((List.replicate n.toNat x.cps.toList).flatten).toArray⟩
def addD : D → D → Option D
  | .int i, .int j => some (.int (i + j))
  | .str x, .str y => if x.length + y.length ≤ sizeLine then some (.str (x ++ y)) else none
  | .tup xs, .tup ys => if xs.length + ys.length ≤ sizeLine then some (.tup (xs ++ ys)) else none
  | .lst xs, .lst ys => if xs.length + ys.length ≤ sizeLine then some (.lst (xs ++ ys)) else none
  | _, _ => none
def subD : D → D → Option D
  | .int i, .int j => some (.int (i - j))
  | _, _ => none
def mulD : D → D → Option D
  | .int i, .int j => if CMulD i j then some (.int (i * j)) else none
  | .str x, .int n => if n ≤ 1000000 ∧ -1000000 ≤ n ∧ x.length * n.toNat ≤ 1000000 then some (.str (repS x n)) else none
  | .tup xs, .int k => if 2 ≤ k ∧ k ≤ 1000 ∧ xs.isEmpty = false ∧ xs.length ≤ 1000 then some (.tup (List.replicate k.toNat xs).flatten) else none
  | _, _ => none
def divD : D → D → Option D
  | .int i, .int j => if CDivW i j then some (.int (i / j)) else none
  | _, _ => none
def modD : D → D → Option D
  | .int i, .int j => if 0 < j then some (.int (i % j)) else none
  | _, _ => none
def negD : D → Option D
  | .int i => some (.int (-i))
  | _ => none
def ltD : D → D → Option D
  | .int i, .int j => some (.bl (decide (i < j)))
  | _, _ => none
def leD : D → D → Option D
  | .int i, .int j => some (.bl (decide (i ≤ j)))
  | _, _ => none
def gtD : D → D → Option D
  | .int i, .int j => some (.bl (decide (j < i)))
  | _, _ => none
def geD : D → D → Option D
  | .int i, .int j => some (.bl (decide (j ≤ i)))
  | _, _ => none
section
variable {X : Cx} {T : List (Addr × Str)} {W : WX}
theorem done0 {K : PySem.W.Frag} {F H : Hp} {z : D} {v : V} {Q : VK} (hz : Fz F H) (q : ∀ v F' H', Nx T F H F' H' → Rp K F' v z → Q v H') (r : Rp K F v z) : Q v H := q v F H (Nx.refl hz) r
theorem donep {K : PySem.W.Frag} {F H : Hp} {z : D} {p : Addr} {o : HO} {Q : VK} (hz : Fz F H) (hp : H p = none) (ho : ∀ ps, o ≠ .tbl ps) (q : ∀ v F' H', Nx T F H F' H' → Rp K F' v z → Q v H') (r : Rp K (upd F p o) (.ref p) z) : Q (.ref p) (upd H p o) :=
  q _ _ _ (Nx.push hz hp ho) r
theorem rp_tup {K : PySem.W.Frag} {F H : Hp} {p : Addr} {xs : List V} {ds : List D} (hz : Fz F H) (hp : H p = none) (r : RpAll K F xs ds) : Rp K (upd F p (.tup xs)) (.ref p) (.tup ds) :=
  .tup (.inl (.inl upd_same)) (r.mono (Nx.push (T := []) (o := .tup xs) hz hp (fun ps z => by cases z)).f)
theorem rp_lst {K : PySem.W.Frag} {F H : Hp} {p : Addr} {xs : List V} {ds : List D} (hz : Fz F H) (hp : H p = none) (r : RpAll K F xs ds) : Rp K (upd F p (.lst xs)) (.ref p) (.lst ds) :=
  .lst upd_same (r.mono (Nx.push (T := []) (o := .lst xs) hz hp (fun ps z => by cases z)).f)
theorem ntT {xs : List V} : ∀ ps, HO.tup xs ≠ .tbl ps := fun _ z => by cases z
theorem ntL {xs : List V} : ∀ ps, HO.lst xs ≠ .tbl ps := fun _ z => by cases z
theorem RpAll.nil_iff {K : PySem.W.Frag} {F : Hp} {xs : List V} {ds : List D} (r : RpAll K F xs ds) : xs = [] ↔ ds = [] := by
  cases r with
  | nil => simp
  | cons _ _ => simp
theorem o_add : OpR X (binaryOp .Add) (rD2 X.K T addD) := by
  intro pins s σ H x y v u Q I rx ry h
  obtain ⟨F, d, e, z, hz, rd, re, hG, q⟩ := h
  cases rd with
  | int i =>
    cases re with
    | int j => cases hG; exact op_add pins s σ H _ _ v u Q I rx ry ⟨i, j, rfl, rfl, done0 hz q (.int _)⟩
    | _ => cases hG
  | str i =>
    cases re with
    | str j =>
      have hG : (if i.length + j.length ≤ sizeLine then some (D.str (i ++ j)) else none) = some z := hG
      split at hG
      · rename_i hl
        cases hG
        exact op_add_str pins s σ H _ _ v u Q I rx ry ⟨i, j, rfl, rfl, hl, done0 hz q (.str _)⟩
      · cases hG
    | _ => cases hG
  | tup h1 r1 =>
    cases re with
    | tup h2 r2 =>
      rename_i a xs ds b ys es
      have hG : (if ds.length + es.length ≤ sizeLine then some (D.tup (ds ++ es)) else none) = some z := hG
      split at hG
      · rename_i hl
        cases hG
        refine op_catA pins s σ H _ _ v u Q I rx ry ⟨a, b, xs, ys, rfl, rfl, hz.sub.st h1, hz.sub.st h2, by rw [r1.length, r2.length]; exact hl, fun e => ?_, fun e1 e2 => ?_, fun e1 e2 p hp => ?_⟩
        · have e' := r1.nil_iff.mp e
          subst e'
          exact done0 hz q (.tup h2 r2)
        · have e' := r2.nil_iff.mp e2
          subst e'
          rw [List.append_nil] at q
          exact done0 hz q (.tup h1 r1)
        · exact donep hz hp ntT q (rp_tup hz hp (r1.append r2))
      · cases hG
    | _ => cases hG
  | lst h1 r1 =>
    cases re with
    | lst h2 r2 =>
      rename_i a xs ds b ys es
      have hG : (if ds.length + es.length ≤ sizeLine then some (D.lst (ds ++ es)) else none) = some z := hG
      split at hG
      · rename_i hl
        cases hG
        exact op_cat pins s σ H _ _ v u Q I rx ry ⟨a, b, xs, ys, rfl, rfl, hz.sub _ _ h1, hz.sub _ _ h2, by rw [r1.length, r2.length]; exact hl, fun p hp => donep hz hp ntL q (rp_lst hz hp (r1.append r2))⟩
      · cases hG
    | _ => cases hG
  | _ => cases hG
theorem o_sub : OpR X (binaryOp .Sub) (rD2 X.K T subD) := by
  intro pins s σ H x y v u Q I rx ry h
  obtain ⟨F, d, e, z, hz, rd, re, hG, q⟩ := h
  cases rd with
  | int i =>
    cases re with
    | int j => cases hG; exact op_sub pins s σ H _ _ v u Q I rx ry ⟨i, j, rfl, rfl, done0 hz q (.int _)⟩
    | _ => cases hG
  | _ => cases hG
theorem foldA (x : Array Nat) : ∀ (n : Nat) (acc : Array Nat), (List.replicate n x).foldl (· ++ ·) acc = (acc.toList ++ (List.replicate n x.toList).flatten).toArray
  | 0, acc => by simp
  | n + 1, acc => by
    rw [List.replicate_succ, List.foldl_cons, foldA x n]
    simp [List.replicate_succ]
theorem fold_rep (x : Array Nat) (n : Nat) : (List.replicate n x).foldl (· ++ ·) #[] = ((List.replicate n x.toList).flatten).toArray := by
  rw [foldA]; simp
theorem sizeLine_val : (sizeLine : Nat) = 16777216 := sizeLine_eq
theorem o_mul_str {pins : List (Addr × Obj)} {s : Shared} {σ : L2.St} {H : Hp} {Q : VK} {x : Str} {n : Int} {t u : Tok} (I : Inv X pins σ H s) (h1 : n ≤ 1000000) (h2 : -1000000 ≤ n) (h3 : x.length * n.toNat ≤ 1000000) (q : Q (.str (repS x n)) H) :
    wpAny (model X.prog X.w) X.A (binaryOp .Mult (.str x t) (.int n u)) (EP X pins σ Q) X.xe s := by
  have tl : tooLong (x.length * n.toNat) = false := by
    unfold tooLong
    refine decide_eq_false ?_
    rw [sizeLine_val]
    omega
  refine PySem.P.mul_str (by rw [decide_eq_false (by omega), decide_eq_false (by omega)]; rfl) (fun g1 g2 => ?_) (fun _ _ => tl) ?_
  · intro hgt
    have hx : x.length ≤ 1000000 := by
      have hn : 1 ≤ n.toNat := by omega
      have := Nat.mul_le_mul_left x.length hn
      omega
    have hd : (2 ^ 63 - 1) / 1000000 ≤ (2 ^ 63 - 1 : Int) / n := by
      apply Int.le_ediv_of_mul_le (by omega)
      have : ((2 ^ 63 - 1 : Int) / 1000000) * n ≤ ((2 ^ 63 - 1 : Int) / 1000000) * 1000000 := Int.mul_le_mul_of_nonneg_left h1 (by decide)
      exact Int.le_trans this (by decide)
    have h0 : (1000000 : Int) ≤ (2 ^ 63 - 1) / 1000000 := by decide
    omega
  · by_cases g1 : n < 1
    · rw [if_pos g1]
      have e : repS x n = Str.empty := by
        unfold repS
        rw [show n.toNat = 0 by omega] <;> rfl
      rw [e] at q
      exact ⟨by decide, ⟨.str Str.empty, H, I.tok _, ⟨_, rfl⟩, q⟩⟩
    · rw [if_neg g1]
      by_cases g2 : (n == 1 || x.length == 0) = true
      · rw [if_pos g2]
        have e : repS x n = x := by
          unfold repS
          rw [Bool.or_eq_true, beq_iff_eq, beq_iff_eq] at g2
          rcases g2 with g | g
          · subst g
            show (⟨(([x.cps.toList] : List (List Nat)).flatten).toArray⟩ : Str) = x
            simp
          · have : x.cps = #[] := Array.eq_empty_of_size_eq_zero g
            cases x
            simp only at this
            subst this
            simp
        rw [e] at q
        exact ⟨.str x, H, I, ⟨_, rfl⟩, q⟩
      · rw [if_neg g2, fold_rep]
        refine ⟨?_, ⟨.str (repS x n), H, I.tok _, ⟨_, rfl⟩, q⟩⟩
        rw [sizeLine_val]
        show ((List.replicate n.toNat x.cps.toList).flatten).toArray.size ≤ _
        rw [List.size_toArray, List.length_flatten]
        simp
        have e : n.toNat * x.cps.size = x.length * n.toNat := Nat.mul_comm _ _
        rw [e]
        omega
theorem o_mul : OpR X (binaryOp .Mult) (rD2 X.K T mulD) := by
  intro pins s σ H x y v u Q I rx ry h
  obtain ⟨F, d, e, z, hz, rd, re, hG, q⟩ := h
  cases rd with
  | int i =>
    cases re with
    | int j =>
      have hG : (if CMulD i j then some (D.int (i * j)) else none) = some z := hG
      split at hG
      · rename_i hc
        cases hG
        rcases hc with hc | hc
        · exact op_mul pins s σ H _ _ v u Q I rx ry ⟨i, j, rfl, rfl, hc, done0 hz q (.int _)⟩
        · exact op_mulW pins s σ H _ _ v u Q I rx ry ⟨i, j, rfl, rfl, hc, done0 hz q (.int _)⟩
      · cases hG
    | _ => cases hG
  | str x =>
    cases re with
    | int n =>
      have hG : (if n ≤ 1000000 ∧ -1000000 ≤ n ∧ x.length * n.toNat ≤ 1000000 then some (D.str (repS x n)) else none) = some z := hG
      split at hG
      · rename_i hc
        cases hG
        obtain ⟨t, rfl⟩ := rx
        obtain ⟨t', rfl⟩ := ry
        exact o_mul_str I hc.1 hc.2.1 hc.2.2 (done0 hz q (.str _))
      · cases hG
    | _ => cases hG
  | tup h1 r1 =>
    cases re with
    | int k =>
      rename_i a xs ds
      have hG : (if 2 ≤ k ∧ k ≤ 1000 ∧ ds.isEmpty = false ∧ ds.length ≤ 1000 then some (D.tup (List.replicate k.toNat ds).flatten) else none) = some z := hG
      split at hG
      · rename_i hc
        cases hG
        obtain ⟨c1, c2, c3, c4⟩ := hc
        have many : ∀ n, RpAll X.K F (List.replicate n xs).flatten (List.replicate n ds).flatten := fun n => by
          induction n with
          | zero => exact .nil
          | succ n ih => simpa [List.replicate_succ] using r1.append ih
        have some_ : xs ≠ [] := fun z => by
          subst z
          cases r1
          cases c3
        exact op_repT pins s σ H _ _ v u Q I rx ry ⟨a, k, xs, rfl, rfl, hz.sub.st h1, some_, c1, c2, by rw [r1.length]; exact c4, fun p hp => donep hz hp ntT q (rp_tup hz hp (many _))⟩
      · cases hG
    | _ => cases hG
  | _ => cases hG
theorem o_div : OpR X (binaryOp .FloorDiv) (rD2 X.K T divD) := by
  intro pins s σ H x y v u Q I rx ry h
  obtain ⟨F, d, e, z, hz, rd, re, hG, q⟩ := h
  cases rd with
  | int i =>
    cases re with
    | int j =>
      have hG : (if CDivW i j then some (D.int (i / j)) else none) = some z := hG
      split at hG
      · rename_i hc
        cases hG
        exact op_fdivW pins s σ H _ _ v u Q I rx ry ⟨i, j, rfl, rfl, hc, done0 hz q (.int _)⟩
      · cases hG
    | _ => cases hG
  | _ => cases hG
theorem o_mod : OpR X (binaryOp .Mod) (rD2 X.K T modD) := by
  intro pins s σ H x y v u Q I rx ry h
  obtain ⟨F, d, e, z, hz, rd, re, hG, q⟩ := h
  cases rd with
  | int i =>
    cases re with
    | int j =>
      have hG : (if 0 < j then some (D.int (i % j)) else none) = some z := hG
      split at hG
      · rename_i hc
        cases hG
        exact op_mod pins s σ H _ _ v u Q I rx ry ⟨i, j, rfl, rfl, hc, done0 hz q (.int _)⟩
      · cases hG
    | _ => cases hG
  | _ => cases hG
theorem u_neg : UnR X (unaryOp .USub) (rD1 X.K T negD) := by
  intro pins s σ H x v Q I rx h
  obtain ⟨F, d, z, hz, rd, hG, q⟩ := h
  cases rd with
  | int i => cases hG; exact un_neg pins s σ H _ v Q I rx ⟨i, rfl, done0 hz q (.int _)⟩
  | _ => cases hG
theorem o_lt : OpR X (compareOp .Lt) (rD2 X.K T ltD) := by
  intro pins s σ H x y v u Q I rx ry h
  obtain ⟨F, d, e, z, hz, rd, re, hG, q⟩ := h
  cases rd with
  | int i =>
    cases re with
    | int j => cases hG; exact op_lt pins s σ H _ _ v u Q I rx ry ⟨i, j, rfl, rfl, done0 hz q (.bl _)⟩
    | _ => cases hG
  | _ => cases hG
theorem o_le : OpR X (compareOp .LtE) (rD2 X.K T leD) := by
  intro pins s σ H x y v u Q I rx ry h
  obtain ⟨F, d, e, z, hz, rd, re, hG, q⟩ := h
  cases rd with
  | int i =>
    cases re with
    | int j => cases hG; exact op_le pins s σ H _ _ v u Q I rx ry ⟨i, j, rfl, rfl, done0 hz q (.bl _)⟩
    | _ => cases hG
  | _ => cases hG
theorem o_gt : OpR X (compareOp .Gt) (rD2 X.K T gtD) := by
  intro pins s σ H x y v u Q I rx ry h
  obtain ⟨F, d, e, z, hz, rd, re, hG, q⟩ := h
  cases rd with
  | int i =>
    cases re with
    | int j => cases hG; exact op_gt pins s σ H _ _ v u Q I rx ry ⟨i, j, rfl, rfl, done0 hz q (.bl _)⟩
    | _ => cases hG
  | _ => cases hG
theorem o_ge : OpR X (compareOp .GtE) (rD2 X.K T geD) := by
  intro pins s σ H x y v u Q I rx ry h
  obtain ⟨F, d, e, z, hz, rd, re, hG, q⟩ := h
  cases rd with
  | int i =>
    cases re with
    | int j => cases hG; exact op_ge pins s σ H _ _ v u Q I rx ry ⟨i, j, rfl, rfl, done0 hz q (.bl _)⟩
    | _ => cases hG
  | _ => cases hG
end
end DN
namespace DN
open PySem PySem.Spec PyProof.Rows L2
open LamX (Tabs ExtN)

/-! ### tests, and, or, not, chains -/
def andQ (f g : Rho → Res Bool) : Rho → Res Bool := fun ρ => (f ρ).bind fun b => if b = true then g ρ else .ok false
def orQ (f g : Rho → Res Bool) : Rho → Res Bool := fun ρ => (f ρ).bind fun b => if b = true then .ok true else g ρ
def notQ (f : Rho → Res Bool) : Rho → Res Bool := fun ρ => (f ρ).bind fun b => .ok (!b)
def andE (f g : Rho → Res D) : Rho → Res D := fun ρ => (f ρ).bind fun d => (ans d).bind fun b => if b = true then g ρ else .ok (.bl false)
def orE (f g : Rho → Res D) : Rho → Res D := fun ρ => (f ρ).bind fun d => (ans d).bind fun b => if b = true then .ok (.bl true) else g ρ
def notE (f : Rho → Res D) : Rho → Res D := fun ρ => (f ρ).bind fun d => (ans d).bind fun b => .ok (.bl (!b))
def chn (G G' : D → D → Option D) (f g h : Rho → Res D) : Rho → Res D := fun ρ => (f ρ).bind fun d => (g ρ).bind fun e => (ofO (G d e)).bind fun z => (ans z).bind fun k => if k = true then (h ρ).bind fun c => ofO (G' e c) else .ok (.bl false)
section
variable {X : Cx} {T : List (Addr × Str)} {W : WX}
theorem q_val {e : Expr} {f : Rho → Res D} (h : DE X T W e f) (he : ∀ whole, isTrue e X.env whole = (do let v ← whole; standAt e.pos; holding [v] (truthy v)) := by intro _; rfl) : DQ X T W e (tst f) :=
  (pt_val h he).to fun _ _ _ h => tst_to h
theorem w_or1 {a : Expr} {pos : Pos} {f : Rho → Res Bool} (h : DQ X T W a f) : DW X T W (.BoolOp .Or [a] pos) f := pw_or1 h
theorem w_or {a b : Expr} {rest : List Expr} {pos : Pos} {f g : Rho → Res Bool} (h : DQ X T W a f) (h2 : DW X T W (.BoolOp .Or (b :: rest) pos) g) : DW X T W (.BoolOp .Or (a :: b :: rest) pos) (orQ f g) :=
  (pw_or h h2).to fun σ H Q ⟨ρ, F, a, h⟩ => by
    refine ⟨ρ, F, a, (aft.bind (R := RBool) h).imp fun d _ v F1 H1 _ _ q => ?_⟩
    obtain ⟨b, F2, _, n, rv, q⟩ := q
    obtain rfl : v = b := rv
    cases v with
    | true => exact q.ok (Nx.refl n.z) rfl
    | false => exact ⟨ρ, F2, a.nx n, q⟩
theorem q_w {e : Expr} {f : Rho → Res Bool} (h : DW X T W e f) : DQ X T W e f := PW.pt h
theorem q_not {a : Expr} {pos : Pos} {f : Rho → Res Bool} (h : DQ X T W a f) : DQ X T W (.UnaryOp .Not a pos) (notQ f) :=
  (pt_not h).to fun σ H Q ⟨ρ, F, a, h⟩ => by
    refine ⟨ρ, F, a, (aft.bind (R := RBool) h).imp fun d _ v F1 H1 _ _ q => ?_⟩
    obtain ⟨b, F2, _, n, rv, q⟩ := q
    obtain rfl : v = b := rv
    exact q.ok (Nx.refl n.z) rfl
theorem e_one {op} {a : Expr} {pos : Pos} {f : Rho → Res D} (h : DE X T W a f) : DE X T W (.BoolOp op [a] pos) f := pe_one h
theorem bool_of {K : PySem.W.Frag} {σ : L2.St} {F H : Hp} {α β : Type} {R : Hp → α → β → Prop} {Q : α → Hp → Prop} {d : D} {v : V} {k : Bool → Res β} (rv : Rp K F v d) (q : aft R K T W σ F H Q ((ans d).bind k)) : ∃ c, v = .bl c ∧ d = .bl c ∧ aft R K T W σ F H Q (k c) := by
  cases rv with
  | bl c => exact ⟨c, rfl, rfl, q⟩
  | _ => exact q.elim
theorem e_and {a b : Expr} {rest : List Expr} {pos : Pos} {f g : Rho → Res D} (h : DE X T W a f) (h2 : DE X T W (.BoolOp .And (b :: rest) pos) g) : DE X T W (.BoolOp .And (a :: b :: rest) pos) (andE f g) :=
  (pe_and h h2).to fun σ H Q ⟨ρ, F, a, h⟩ => by
    refine ⟨ρ, F, a, (aft.bind (R := Rp X.K) h).imp fun d _ v F1 H1 _ _ q => ?_⟩
    obtain ⟨b, F2, _, n, rv, q⟩ := q
    obtain ⟨c, rfl, rfl, q⟩ := bool_of rv q
    refine ⟨c, rfl, ?_⟩
    cases c with
    | true => exact ⟨ρ, F2, a.nx n, q⟩
    | false => exact q.ok (Nx.refl n.z) (.bl false)
theorem chn_to {G G' : D → D → Option D} {K : PySem.W.Frag} {f g h : Rho → Res D} {σ : L2.St} {H : Hp} {Q : VK} (hh : tE K T W (chn G G' f g h) σ H Q) : tChain (rD2 K T G) (rD2 K T G') (tE K T W f) (tE K T W g) (tE K T W h) σ H Q := by
  obtain ⟨ρ, F, a, h⟩ := hh
  refine ⟨ρ, F, a, (aft.bind (R := Rp K) h).imp fun d _ v F1 H1 _ _ q => ?_⟩
  obtain ⟨b, F2, _, n, rv, q⟩ := q
  refine ⟨ρ, F2, a.nx n, (aft.bind (R := Rp K) q).imp fun ds _ vs F3 H3 _ _ q => ?_⟩
  obtain ⟨e, F4, _, n2, rs, q⟩ := q
  have q1 := aft.bind (R := Rp K) q
  obtain ⟨z, hz, q2⟩ := ofO_ok q1
  refine ⟨F4, b, e, z, n2.z, rv.mono n2.f, rs, hz, fun v' F' H' n3 rz => ?_⟩
  obtain ⟨z', F5, ez, n4, rz', q3⟩ := q2 v' F' H' n3 rz
  rw [hz] at ez
  obtain rfl : z = z' := by injection ez
  obtain ⟨k, rfl, rfl, q4⟩ := bool_of rz' q3
  refine ⟨k, rfl, ?_⟩
  cases k with
  | false => exact q4.ok (Nx.refl n4.z) (.bl false)
  | true =>
    refine ⟨ρ, F5, (a.nx (n.trans (n2.trans n4))), (aft.bind (R := Rp K) q4).imp fun c _ w F6 H6 _ _ q => ?_⟩
    obtain ⟨c', F7, _, n5, rc, q⟩ := q
    obtain ⟨z2, hz2, q⟩ := ofO_ok q
    exact ⟨F7, e, c', z2, n5.z, rs.mono (n4.trans n5).f, rc, hz2, q⟩
theorem q_chn {op op' : CmpOp} {G G' : D → D → Option D} {a b c : Expr} {f g h : Rho → Res D} {pos : Pos} (ho : OpR X (compareOp op) (rD2 X.K T G)) (ho' : OpR X (compareOp op') (rD2 X.K T G')) (ha : DE X T W a f) (hb : DE X T W b g) (hc : DE X T W c h)
    (hm : lastMarks [op, op'] [b, c] = false := by with_unfolding_all rfl) : DQ X T W (.Compare a [op, op'] [b, c] pos) (tst (chn G G' f g h)) :=
  (pt_chain ho ho' ha hb hc hm).to fun σ H Q h => by
    have h2 := tst_to h
    exact chn_to h2
end

/-! ### displays, subscripts, slices -/
def mkT (f : Rho → Res (List D)) : Rho → Res D := fun ρ => (f ρ).bind fun ds => if ds.length ≤ sizeLine then .ok (.tup ds) else .bad
def mkL (f : Rho → Res (List D)) : Rho → Res D := fun ρ => (f ρ).bind fun ds => if ds.length ≤ sizeLine then .ok (.lst ds) else .bad
def ixD : D → D → Option D
  | .tup xs, .int i => atI xs i
  | .lst xs, .int i => atI xs i
  | .arr ns, .int i => (atI ns i).map .int
  | .str x, .int i => if x.length ≤ sizeLine then (atI x.cps.toList i).map fun c => .str ⟨#[c]⟩ else none
  | _, _ => none
def cutD (xs : List D) (lo hi : Option Int) : List D := (xs.drop (HT.sIx xs.length 0 lo)).take (HT.sIx xs.length xs.length hi - HT.sIx xs.length 0 lo)
def slD : D → Option Int → Option Int → Option D
  | .tup xs, lo, hi => some (.tup (cutD xs lo hi))
  | .lst xs, lo, hi => some (.lst (cutD xs lo hi))
  | .str x, lo, hi => if x.length ≤ sizeLine then some (.str (cutS x lo hi)) else none
  | _, _, _ => none
def pno : Rho → Res (Option Int) := fun _ => .ok none
def intO : D → Res (Option Int)
  | .int i => .ok (some i)
  | _ => .bad
def psm (f : Rho → Res D) : Rho → Res (Option Int) := fun ρ => (f ρ).bind intO
def slc (f : Rho → Res D) (g h : Rho → Res (Option Int)) : Rho → Res D := fun ρ => (f ρ).bind fun d => (g ρ).bind fun lo => (h ρ).bind fun hi => ofO (slD d lo hi)
section
variable {X : Cx} {T : List (Addr × Str)} {W : WX}
theorem e_tup {es : List Expr} {x1} {pos : Pos} {f : Rho → Res (List D)} (h : DA X T W es f) : DE X T W (.Tuple es x1 pos) (mkT f) :=
  (pe_tup h).to fun σ H Q ⟨ρ, F, a, h⟩ => by
    refine ⟨ρ, F, a, (aft.bind (R := RpAll X.K) h).imp fun d _ v F1 H1 _ _ q => ?_⟩
    obtain ⟨ds, F2, _, n, rv, q⟩ := q
    have q : aft (Rp X.K) X.K T W σ F2 H1 Q (if ds.length ≤ sizeLine then .ok (.tup ds) else .bad) := q
    split at q
    · rename_i hl
      exact ⟨by rw [rv.length]; exact hl, fun p hp => q _ _ _ (Nx.push n.z hp ntT) (rp_tup n.z hp rv)⟩
    · exact q.elim
theorem e_lst {es : List Expr} {pos : Pos} {f : Rho → Res (List D)} (h : DA X T W es f) : DE X T W (.List es pos) (mkL f) :=
  (pe_lst h).to fun σ H Q ⟨ρ, F, a, h⟩ => by
    refine ⟨ρ, F, a, (aft.bind (R := RpAll X.K) h).imp fun d _ v F1 H1 _ _ q => ?_⟩
    obtain ⟨ds, F2, _, n, rv, q⟩ := q
    have q : aft (Rp X.K) X.K T W σ F2 H1 Q (if ds.length ≤ sizeLine then .ok (.lst ds) else .bad) := q
    split at q
    · rename_i hl
      exact ⟨by rw [rv.length]; exact hl, fun p hp => q _ _ _ (Nx.push n.z hp ntL) (rp_lst n.z hp rv)⟩
    · exact q.elim
theorem atI_get {K : PySem.W.Frag} {F : Hp} {xs : List V} {ds : List D} {i : Int} {d : D} (r : RpAll K F xs ds) (h : atI ds i = some d) : ∃ v, atI xs i = some v ∧ Rp K F v d := by
  unfold atI at h ⊢
  rw [r.length]
  cases e : ixN ds.length i with
  | none => rw [e] at h; cases h
  | some j =>
    rw [e] at h
    exact r.get h
theorem atI_int {ns : List Int} {i : Int} {z : D} (h : (atI ns i).map D.int = some z) : ∃ n, atI (ns.map V.int) i = some (.int n) ∧ z = .int n := by
  unfold atI at h ⊢
  rw [List.length_map]
  cases e : ixN ns.length i with
  | none => rw [e] at h; cases h
  | some j =>
    rw [e] at h
    have h : (ns[j]?).map D.int = some z := h
    show ∃ n, (ns.map V.int)[j]? = some (.int n) ∧ z = .int n
    rw [List.getElem?_map]
    cases q : ns[j]? with
    | none => rw [q] at h; cases h
    | some n =>
      rw [q] at h
      cases h
      exact ⟨n, rfl, rfl⟩
theorem x_ix : IxR X (rD2 X.K T ixD) := by
  intro value slice pins s σ H x y v u Q I rx ry h hs
  obtain ⟨F, d, e, z, hz, rd, re, hG, q⟩ := h
  cases rd with
  | tup h1 r1 =>
    cases re with
    | int i =>
      obtain ⟨w, hw, rw'⟩ := atI_get r1 hG
      exact ix_tup value slice pins s σ H _ _ v u Q I rx ry ⟨_, _, i, w, rfl, rfl, hz.sub.st h1, hw, done0 hz q rw'⟩ hs
    | _ => cases hG
  | lst h1 r1 =>
    cases re with
    | int i =>
      obtain ⟨w, hw, rw'⟩ := atI_get r1 hG
      exact ix_list value slice pins s σ H _ _ v u Q I rx ry ⟨_, _, i, w, rfl, rfl, SqL.of (hz.sub _ _ h1), hw, done0 hz q rw'⟩ hs
    | _ => cases hG
  | arr h1 =>
    cases re with
    | int i =>
      obtain ⟨n, hn, rfl⟩ := atI_int hG
      exact ix_list value slice pins s σ H _ _ v u Q I rx ry ⟨_, _, i, .int n, rfl, rfl, hz.sub.sl h1, hn, done0 hz q (.int n)⟩ hs
    | _ => cases hG
  | str x =>
    cases re with
    | int i =>
      have hG : (if x.length ≤ sizeLine then (atI x.cps.toList i).map fun c => D.str ⟨#[c]⟩ else none) = some z := hG
      split at hG
      · rename_i hl
        cases e : atI x.cps.toList i with
        | none => rw [e] at hG; cases hG
        | some c =>
          rw [e] at hG
          cases hG
          exact ix_str value slice pins s σ H _ _ v u Q I rx ry ⟨x, i, c, rfl, rfl, hl, e, done0 hz q (.str _)⟩ hs
      · cases hG
    | _ => cases hG
  | _ => cases hG
theorem e_ix {a b : Expr} {f g : Rho → Res D} {pos : Pos} (ha : DE X T W a f) (hb : DE X T W b g) (hs : PlainIx b := by exact fun _ _ => rfl) : DE X T W (.Subscript a b pos) (bop ixD f g) :=
  (pe_ix x_ix ha hb hs).to fun _ _ _ h => bin_to h
abbrev DO (X : Cx) (T : List (Addr × Str)) (W : WX) (e : Option Expr) (f : Rho → Res (Option Int)) : Prop := PO X e (tG (fun _ _ a b => a = b) X.K T W f)
theorem _root_.L2.PO.to {X : Cx} {e : Option Expr} {t u : TO} (h : PO X e t) (k : ∀ σ H Q, u σ H Q → t σ H Q) : PO X e u := ⟨fun pins s σ H Q I q => h.run pins s σ H Q I (k σ H Q q)⟩
theorem p_none : DO X T W none pno := po_none.to fun σ H Q ⟨ρ, F, a, h⟩ => h _ F H (Nx.refl a.z) rfl
theorem p_some {e : Expr} {f : Rho → Res D} (h : DE X T W e f) : DO X T W (some e) (psm f) :=
  (po_some h).to fun σ H Q ⟨ρ, F, a, h⟩ => by
    refine ⟨ρ, F, a, (aft.bind (R := Rp X.K) h).imp fun d _ v F1 H1 _ _ q => ?_⟩
    obtain ⟨b, F2, _, n, rv, q⟩ := q
    cases rv with
    | int i => exact ⟨i, rfl, q.ok (Nx.refl n.z) rfl⟩
    | _ => exact q.elim
theorem RpAll.cut {K : PySem.W.Frag} {F : Hp} {xs : List V} {ds : List D} (r : RpAll K F xs ds) (lo hi : Option Int) : RpAll K F (cutV xs lo hi) (cutD ds lo hi) := by
  unfold cutV cutD
  rw [r.length]
  exact (r.drop _).take _
theorem cut_whole {ds : List D} {lo hi : Option Int} (h : HT.sIx ds.length 0 lo = 0 ∧ HT.sIx ds.length ds.length hi = ds.length) : cutD ds lo hi = ds := by
  unfold cutD
  rw [h.1, h.2]
  simp
def rSlD (K : PySem.W.Frag) (T : List (Addr × Str)) : V → Option Int → Option Int → Hp → VK → Prop := fun x lo hi H Q =>
  ∃ F d z, Fz F H ∧ Rp K F x d ∧ slD d lo hi = some z ∧ ∀ v F' H', Nx T F H F' H' → Rp K F' v z → Q v H'
theorem x_sl : SlR X (rSlD X.K T) := by
  intro pins s σ H x v vl vu lo hi sl Q I rx hs pl pu h
  obtain ⟨F, d, z, hz, rd, hG, q⟩ := h
  cases rd with
  | tup h1 r1 =>
    cases hG
    refine sl_tupA pins s σ H _ v vl vu lo hi sl Q I rx hs pl pu ⟨_, _, rfl, hz.sub.st h1, fun hw => ?_, fun _ p hp => donep hz hp ntT q (rp_tup hz hp (r1.cut lo hi))⟩
    rw [r1.length] at hw
    rw [cut_whole hw] at q
    exact done0 hz q (.tup h1 r1)
  | lst h1 r1 =>
    cases hG
    exact sl_list pins s σ H _ v vl vu lo hi sl Q I rx hs pl pu ⟨_, _, rfl, SqL.of (hz.sub _ _ h1), fun p hp => donep hz hp ntL q (rp_lst hz hp (r1.cut lo hi))⟩
  | str x =>
    have hG : (if x.length ≤ sizeLine then some (D.str (cutS x lo hi)) else none) = some z := hG
    split at hG
    · rename_i hl
      cases hG
      exact sl_str pins s σ H _ v vl vu lo hi sl Q I rx hs pl pu ⟨x, rfl, hl, done0 hz q (.str _)⟩
    · cases hG
  | _ => cases hG
theorem e_sl {e : Expr} {lo hi : Option Expr} {f : Rho → Res D} {g h : Rho → Res (Option Int)} {p2 pos : Pos} (he : DE X T W e f) (hl : DO X T W lo g) (hh : DO X T W hi h) : DE X T W (.Subscript e (.Slice lo hi none p2) pos) (slc f g h) :=
  (pe_slice x_sl he hl hh).to fun σ H Q ⟨ρ, F, a, h⟩ => by
    refine ⟨ρ, F, a, (aft.bind (R := Rp X.K) h).imp fun d _ v F1 H1 _ _ q => ?_⟩
    obtain ⟨b, F2, _, n, rv, q⟩ := q
    refine ⟨ρ, F2, a.nx n, (aft.bind (R := fun _ a b => a = b) q).imp fun lo _ v' F3 H3 _ _ q => ?_⟩
    obtain ⟨lo', F4, _, n2, rl, q⟩ := q
    subst rl
    refine ⟨ρ, F4, a.nx (n.trans n2), (aft.bind (R := fun _ a b => a = b) q).imp fun hi _ v'' F5 H5 _ _ q => ?_⟩
    obtain ⟨hi', F6, _, n3, rh, q⟩ := q
    subst rh
    obtain ⟨z, hz, q⟩ := ofO_ok q
    exact ⟨F6, b, z, n3.z, rv.mono (n2.trans n3).f, hz, q⟩
end

/-! ### calls of built-ins -/
section
variable {X : Cx} {T : List (Addr × Str)} {W : WX}
theorem cal_to {K : PySem.W.Frag} {G : List D → Option D} {f : Rho → Res (List D)} {σ : L2.St} {H : Hp} {Q : VK} (h : tE K T W (cal G f) σ H Q) : tCB (rDn K T G) (tA K T W f) σ H Q := by
  obtain ⟨ρ, F, a, h⟩ := h
  refine ⟨ρ, F, a, (aft.bind (R := RpAll K) h).imp fun d _ v F1 H1 _ _ q => ?_⟩
  obtain ⟨b, F2, _, n, rv, q⟩ := q
  obtain ⟨z, hz, q⟩ := ofO_ok q
  exact ⟨F2, b, z, n.z, rv, hz, q⟩
theorem e_callB {id : String} {x : Str} {G : List D → Option D} {e : Expr} {es : List Expr} {p pos : Pos} {f : Rho → Res (List D)} (hc : CallR X (.builtin id) (rDn X.K T G)) (hg : Gl X x) (hm : X.mg x = none) (hv : bootBuiltins x = some (.builtin id)) (ha : DA X T W (e :: es) f)
    (hn : x ≠ "__name__" := by decide) (hdb : (x == ("__debug__" : Str)) = false := by decide) (hpl : starEach (e :: es) X.env = (false, eval e X.env) :: starEach es X.env := by rfl) (hpl2 : (backTo pos (starEach es X.env)).any (·.1) = false := by rfl) : DE X T W (.Call (.Name x p) (e :: es) [] pos) (cal G f) :=
  (pe_callB hc hg hm hv ha hn hdb hpl hpl2).to fun _ _ _ h => cal_to h
theorem e_callTy {T' : String} {x : Str} {G : List D → Option D} {e : Expr} {es : List Expr} {p pos : Pos} {f : Rho → Res (List D)} (hc : CallR X (.type T') (rDn X.K T G)) (hg : Gl X x) (hm : X.mg x = none) (hv : bootBuiltins x = some (.type T')) (ha : DA X T W (e :: es) f)
    (hn : x ≠ "__name__" := by decide) (hdb : (x == ("__debug__" : Str)) = false := by decide) (hpl : starEach (e :: es) X.env = (false, eval e X.env) :: starEach es X.env := by rfl) (hpl2 : (backTo pos (starEach es X.env)).any (·.1) = false := by rfl) : DE X T W (.Call (.Name x p) (e :: es) [] pos) (cal G f) :=
  (pe_callTy hc hg hm hv ha hn hdb hpl hpl2).to fun _ _ _ h => cal_to h
end
def lenD : List D → Option D
  | [.str x] => if x.length ≤ sizeLine then some (.int x.length) else none
  | [.tup xs] => some (.int xs.length)
  | [.lst xs] => some (.int xs.length)
  | [.arr ns] => some (.int ns.length)
  | _ => none
def absD : List D → Option D
  | [.int i] => some (.int (if i < 0 then -i else i))
  | _ => none
def maxD : List D → Option D
  | [.int i, .int j] => some (.int (if j > i then j else i))
  | _ => none
def minD : List D → Option D
  | [.int i, .int j] => some (.int (if j < i then j else i))
  | _ => none
def intD : List D → Option D
  | [.int i] => some (.int i)
  | [.bl k] => some (.int (if k then 1 else 0))
  | [.str x] => if x.length ≤ 640 then (PySem.intText? x).map .int else none
  | _ => none
def strD : List D → Option D
  | [.int i] => if i.natAbs.log2 < 1920 then some (.str (toString i)) else none
  | _ => none
def tupD : List D → Option D
  | [.lst xs] => some (.tup xs)
  | [.tup xs] => some (.tup xs)
  | _ => none
def listD : List D → Option D
  | [.lst xs] => some (.lst xs)
  | [.tup xs] => some (.lst xs)
  | [.str x] => if x.length ≤ 1000000 then some (.lst (x.cps.toList.map fun c => .str ⟨#[c]⟩)) else none
  | _ => none
def tyD : D → Option String
  | .non => some "NoneType"
  | .bl _ => some "bool"
  | .int _ => some "int"
  | .str _ => some "str"
  | .lst _ => some "list"
  | .tup _ => some "tuple"
  | _ => none
def isiD : List D → Option D
  | [d, .ty n] => (tyD d).bind fun t => (kitB t n).map .bl
  | _ => none
section
variable {X : Cx} {T : List (Addr × Str)} {W : WX}
theorem all1 {K : PySem.W.Frag} {F : Hp} {xs : List V} {d : D} (r : RpAll K F xs [d]) : ∃ v, xs = [v] ∧ Rp K F v d := by
  cases r with
  | cons h t => cases t; exact ⟨_, rfl, h⟩
theorem all2 {K : PySem.W.Frag} {F : Hp} {xs : List V} {d e : D} (r : RpAll K F xs [d, e]) : ∃ v w, xs = [v, w] ∧ Rp K F v d ∧ Rp K F w e := by
  cases r with
  | cons h t =>
    obtain ⟨w, rfl, h2⟩ := all1 t
    exact ⟨_, w, rfl, h, h2⟩
theorem c_len : CallR X (.builtin "len") (rDn X.K T lenD) := by
  intro pins s σ H xs us Q I r h
  obtain ⟨F, ds, z, hz, rs, hG, q⟩ := h
  unfold lenD at hG
  split at hG
  · rename_i x
    obtain ⟨v, rfl, rv⟩ := all1 rs
    cases rv
    split at hG
    · rename_i hl
      cases hG
      exact call_len_str pins s σ H _ us Q I r ⟨x, rfl, hl, done0 hz q (.int _)⟩
    · cases hG
  · obtain ⟨v, rfl, rv⟩ := all1 rs
    cases hG
    cases rv with
    | tup h1 r1 => exact call_len_seq pins s σ H _ us Q I r ⟨_, _, rfl, .inr (hz.sub.st h1), by rw [r1.length]; exact done0 hz q (.int _)⟩
  · obtain ⟨v, rfl, rv⟩ := all1 rs
    cases hG
    cases rv with
    | lst h1 r1 => exact call_len_seq pins s σ H _ us Q I r ⟨_, _, rfl, .inl (SqL.of (hz.sub _ _ h1)), by rw [r1.length]; exact done0 hz q (.int _)⟩
  · obtain ⟨v, rfl, rv⟩ := all1 rs
    cases hG
    cases rv with
    | arr h1 => exact call_len_seq pins s σ H _ us Q I r ⟨_, _, rfl, .inl (hz.sub.sl h1), by rw [List.length_map]; exact done0 hz q (.int _)⟩
  · cases hG
theorem c_max (hc : X.calm = true) : CallR X (.builtin "max") (rDn X.K T maxD) := by
  intro pins s σ H xs us Q I r h
  obtain ⟨F, ds, z, hz, rs, hG, q⟩ := h
  unfold maxD at hG
  split at hG
  · obtain ⟨v, w, rfl, rv, rw'⟩ := all2 rs
    cases rv
    cases rw'
    cases hG
    exact call_max2 hc pins s σ H _ us Q I r ⟨_, _, rfl, done0 hz q (.int _)⟩
  · cases hG
theorem c_int : CallR X (.type "int") (rDn X.K T intD) := by
  intro pins s σ H xs us Q I r h
  obtain ⟨F, ds, z, hz, rs, hG, q⟩ := h
  unfold intD at hG
  split at hG
  · obtain ⟨v, rfl, rv⟩ := all1 rs
    cases rv
    cases hG
    exact call_int1 pins s σ H _ us Q I r (.inl ⟨_, rfl, done0 hz q (.int _)⟩)
  · obtain ⟨v, rfl, rv⟩ := all1 rs
    cases rv
    cases hG
    exact call_int1 pins s σ H _ us Q I r (.inr ⟨_, rfl, done0 hz q (.int _)⟩)
  · rename_i x
    obtain ⟨v, rfl, rv⟩ := all1 rs
    cases rv
    split at hG
    · rename_i hl
      cases e : PySem.intText? x with
      | none => rw [e] at hG; cases hG
      | some n =>
        rw [e] at hG
        cases hG
        exact call_int_str pins s σ H _ us Q I r ⟨x, n, rfl, e, hl, done0 hz q (.int _)⟩
    · cases hG
  · cases hG
theorem c_str : CallR X (.type "str") (rDn X.K T strD) := by
  intro pins s σ H xs us Q I r h
  obtain ⟨F, ds, z, hz, rs, hG, q⟩ := h
  unfold strD at hG
  split at hG
  · obtain ⟨v, rfl, rv⟩ := all1 rs
    cases rv
    split at hG
    · rename_i hl
      cases hG
      exact call_str_int pins s σ H _ us Q I r ⟨_, rfl, hl, done0 hz q (.str _)⟩
    · cases hG
  · cases hG
theorem c_tup : CallR X (.type "tuple") (rDn X.K T tupD) := by
  intro pins s σ H xs us Q I r h
  obtain ⟨F, ds, z, hz, rs, hG, q⟩ := h
  unfold tupD at hG
  split at hG
  · obtain ⟨v, rfl, rv⟩ := all1 rs
    cases hG
    cases rv with
    | lst h1 r1 => exact call_tuple_of pins s σ H _ us Q I r ⟨_, _, rfl, .inl ⟨SqL.of (hz.sub _ _ h1), fun p hp => donep hz hp ntT q (rp_tup hz hp r1)⟩⟩
  · obtain ⟨v, rfl, rv⟩ := all1 rs
    cases hG
    cases rv with
    | tup h1 r1 => exact call_tuple_of pins s σ H _ us Q I r ⟨_, _, rfl, .inr ⟨hz.sub.st h1, done0 hz q (.tup h1 r1)⟩⟩
  · cases hG
theorem vals_signs {x : Str} : ∀ (cs : List Nat) (us : List Value) (k : Nat), x.cps.toList.drop k = cs → us.length = cs.length → (∀ j v, us[j]? = some v → ∃ c u, x.cps[k + j]? = some c ∧ v = .str ⟨#[c]⟩ u) → Vals (cs.map fun c => V.str ⟨#[c]⟩) us
  | [], [], _, _, _, _ => .nil
  | [], _ :: _, _, _, h, _ => by simp at h
  | _ :: _, [], _, _, h, _ => by simp at h
  | c :: cs, u :: us, k, hd, hl, h => by
    obtain ⟨c', t, h1, h2⟩ := h 0 u rfl
    have e : x.cps.toList[k]? = some c := by
      have := congrArg (fun l => l[0]?) hd
      simpa [List.getElem?_drop] using this
    have e2 : x.cps[k + 0]? = some c := by simpa using e
    rw [e2] at h1
    cases h1
    refine .cons ⟨t, h2⟩ (vals_signs (x := x) cs us (k + 1) ?_ (by simpa using hl) fun j v hj => ?_)
    · have := congrArg List.tail hd
      simpa [List.tail_drop] using this
    · obtain ⟨c2, t2, h3, h4⟩ := h (j + 1) v (by simpa using hj)
      exact ⟨c2, t2, by rw [show k + 1 + j = k + (j + 1) by omega]; exact h3, h4⟩
theorem call_list_text (hc : X.calm = true) : CallR X (.type "list") (fun xs H Q => ∃ x : Str, xs = [.str x] ∧ x.length ≤ sizeLine ∧ ∀ l, H l = none → Q (.ref l) (upd H l (.lst (x.cps.toList.map fun c => V.str ⟨#[c]⟩)))) := by
  intro pins s σ H xs us Q I r h
  obtain ⟨x, rfl, hz, q⟩ := h
  obtain ⟨u, rfl, t, rfl⟩ := vals1 r
  refine call_list_str (I.ok.hd hc) x t (fun h' tk acc' c' kp e hacc => ?_) (hn := hz)
  have vs : Vals (x.cps.toList.map fun c => V.str ⟨#[c]⟩) acc'.toList := by
    refine vals_signs (x := x) x.cps.toList acc'.toList 0 (by simp) (by have := hacc.1; simp [this]) fun j v hj => ?_
    obtain ⟨c, u, h1, h2⟩ := hacc.2 j v (by simpa using hj)
    exact ⟨c, u, by rw [Nat.zero_add]; exact h1, h2⟩
  refine ⟨.ref s.heap.objs.size, _, I.laid (t' := tk) kp (Nat.le_refl _) (show ObjOk X.prog X.w _ h' _ (.lst (x.cps.toList.map fun c => V.str ⟨#[c]⟩)) from ⟨?_, acc'.toList, c', vs, ?_⟩), rfl, q _ (I.hok.fresh (Nat.le_refl _))⟩
  · rw [List.length_map]
    simpa [Str.length] using hz
  · simpa using e
theorem rp_signs {K : PySem.W.Frag} {F : Hp} (x : Str) : RpAll K F (x.cps.toList.map fun c => V.str ⟨#[c]⟩) (x.cps.toList.map fun c => D.str ⟨#[c]⟩) := by
  induction x.cps.toList with
  | nil => exact .nil
  | cons c l ih => exact .cons (.str _) ih
theorem c_list (hc : X.calm = true) : CallR X (.type "list") (rDn X.K T listD) := by
  intro pins s σ H xs us Q I r h
  obtain ⟨F, ds, z, hz, rs, hG, q⟩ := h
  unfold listD at hG
  split at hG
  · obtain ⟨v, rfl, rv⟩ := all1 rs
    cases hG
    cases rv with
    | lst h1 r1 => exact call_list_of pins s σ H _ us Q I r ⟨_, _, rfl, .inl (SqL.of (hz.sub _ _ h1)), fun p hp => donep hz hp ntL q (rp_lst hz hp r1)⟩
  · obtain ⟨v, rfl, rv⟩ := all1 rs
    cases hG
    cases rv with
    | tup h1 r1 => exact call_list_of pins s σ H _ us Q I r ⟨_, _, rfl, .inr (hz.sub.st h1), fun p hp => donep hz hp ntL q (rp_lst hz hp r1)⟩
  · rename_i x
    obtain ⟨v, rfl, rv⟩ := all1 rs
    cases rv with
    | str _ =>
      split at hG
      · rename_i hx
        cases hG
        exact call_list_text hc pins s σ H _ us Q I r ⟨x, rfl, by rw [sizeLine_eq]; omega, fun p hp => donep hz hp ntL q (rp_lst hz hp (rp_signs x))⟩
      · cases hG
  · cases hG
theorem ty_of {K : PySem.W.Frag} {F H : Hp} {v : V} {d : D} {t : String} (hz : Fz F H) (r : Rp K F v d) (h : tyD d = some t) : TyX K H v (.type t) := by
  cases r with
  | non => cases h; exact .base .non
  | bl b => cases h; exact .base (.bl b)
  | int i => cases h; exact .base (.int i)
  | str x => cases h; exact .base (.str x)
  | lst h1 _ => cases h; exact .base (.lst (hz.sub _ _ h1))
  | tup h1 _ =>
    cases h
    rcases h1 with (h1 | ⟨o, h1⟩) | ⟨o, its, n, hk, hc, _⟩
    · exact .base (.tup (hz.sub _ _ h1))
    · exact .fTuple (hz.sub _ _ h1)
    · exact .kTuple hk hc
  | _ => cases h
theorem c_isi : CallR X (.builtin "isinstance") (rDn X.K T isiD) := by
  intro pins s σ H xs us Q I r h
  obtain ⟨F, ds, z, hz, rs, hG, q⟩ := h
  unfold isiD at hG
  split at hG
  · rename_i d n
    obtain ⟨v, w, rfl, rv, rw'⟩ := all2 rs
    cases rw'
    cases e : tyD d with
    | none => rw [e] at hG; cases hG
    | some t =>
      rw [e] at hG
      have hG : (kitB t n).map D.bl = some z := hG
      cases e2 : kitB t n with
      | none => rw [e2] at hG; cases hG
      | some b =>
        rw [e2] at hG
        cases hG
        exact call_isi pins s σ H _ us Q I r ⟨v, _, _, _, b, rfl, .ty n, ty_of hz rv e, kit_ty e2, done0 hz q (.bl b)⟩
  · cases hG
end
end DN
namespace DN
open PySem PySem.Spec PyProof.Rows L2
open LamX (Tabs ExtN)

/-! ### == and != of data -/
def flatD : D → Bool
  | .non => true
  | .bl _ => true
  | .int _ => true
  | .str _ => true
  | _ => false
mutual
def eqd : D → D → Bool
  | .non, .non => true
  | .bl a, .bl b => a == b
  | .bl a, .int j => (if a then 1 else 0) == j
  | .int i, .bl b => i == (if b then 1 else 0)
  | .int i, .int j => i == j
  | .str x, .str y => x == y
  | .lst xs, .lst ys => eqds xs ys
  | .tup xs, .tup ys => eqds xs ys
  | _, _ => false
def eqds : List D → List D → Bool
  | [], [] => true
  | x :: xs, y :: ys => eqd x y && eqds xs ys
  | _, _ => false
end
mutual
/-- plain data that is no deeper than n -/
def plain : Nat → D → Bool
  | _, .non => true
  | _, .bl _ => true
  | _, .int _ => true
  | _, .str x => PyData.strOk x
  | n + 1, .lst xs => plains n xs
  | n + 1, .tup xs => plains n xs
  | _, _ => false
def plains : Nat → List D → Bool
  | _, [] => true
  | n, x :: xs => plain n x && plains n xs
end
mutual
def pyO : D → PyData
  | .non => .none
  | .bl b => .bool b
  | .int i => .int i
  | .str x => .str x
  | .lst xs => .list (pyA xs)
  | .tup xs => .tuple (pyA xs)
  | _ => .none
def pyA : List D → List PyData
  | [] => []
  | x :: xs => pyO x :: pyA xs
end
mutual
theorem plain_py {K : PySem.W.Frag} {H : Hp} : ∀ (n : Nat) (d : D) (v : V), plain n d = true → Rp K H v d → Dp K H v (pyO d) ∧ (pyO d).canLay0 = true ∧ (pyO d).depth ≤ n
  | n, .non, _, _, .non => by
    unfold pyO
    exact ⟨.non, by simp [PyData.canLay0], by simp [PyData.depth]⟩
  | n, .bl b, _, _, .bl _ => by
    unfold pyO
    exact ⟨.bl b, by simp [PyData.canLay0], by simp [PyData.depth]⟩
  | n, .int b, _, _, .int _ => by
    unfold pyO
    exact ⟨.int b, by simp [PyData.canLay0], by simp [PyData.depth]⟩
  | n, .str b, _, h, .str _ => by
    unfold plain at h
    unfold pyO
    exact ⟨.str b, by simpa [PyData.canLay0] using h, by simp [PyData.depth]⟩
  | n + 1, .lst xs, _, h, .lst h1 r => by
    unfold plain at h
    obtain ⟨a, b, c⟩ := plains_py n xs _ h r
    unfold pyO
    exact ⟨.lst (SqL.of h1) a, by simpa [PyData.canLay0] using b, by simp only [PyData.depth]; omega⟩
  | n + 1, .tup xs, _, h, .tup h1 r => by
    unfold plain at h
    obtain ⟨a, b, c⟩ := plains_py n xs _ h r
    unfold pyO
    exact ⟨.tup h1 a, by simpa [PyData.canLay0] using b, by simp only [PyData.depth]; omega⟩
  | 0, .lst xs, _, h, _ => by simp [plain] at h
  | 0, .tup xs, _, h, _ => by simp [plain] at h
  | _, .fn _, _, h, _ => by simp [plain] at h
  | _, .ty _, _, h, _ => by simp [plain] at h
  | _, .dK _, _, h, _ => by simp [plain] at h
  | _, .dT _, _, h, _ => by simp [plain] at h
  | _, .arr _, _, h, _ => by simp [plain] at h
  | _, .pro _, _, h, _ => by simp [plain] at h
  | _, .dic _ _ _ _, _, h, _ => by simp [plain] at h
  | _, .adr _, _, h, _ => by simp [plain] at h
  | _, .ins _ _ _, _, h, _ => by simp [plain] at h
theorem plains_py {K : PySem.W.Frag} {H : Hp} : ∀ (n : Nat) (ds : List D) (vs : List V), plains n ds = true → RpAll K H vs ds → DpAll K H vs (pyA ds) ∧ PyData.canLayAll0 (pyA ds) = true ∧ PyData.depthAll (pyA ds) ≤ n
  | n, [], _, _, .nil => by
    unfold pyA
    exact ⟨.nil, by simp [PyData.canLayAll0], by simp [PyData.depthAll]⟩
  | n, d :: ds, _, h, .cons r t => by
    unfold plains at h
    rw [Bool.and_eq_true] at h
    obtain ⟨a, b, c⟩ := plain_py n d _ h.1 r
    obtain ⟨a2, b2, c2⟩ := plains_py n ds _ h.2 t
    unfold pyA
    exact ⟨.cons a a2, by simp [PyData.canLayAll0, b, b2], by simp only [PyData.depthAll]; omega⟩
end
mutual
theorem eqd_py : ∀ (n m : Nat) (d e : D), plain n d = true → plain m e = true → PyData.eqv (pyO d) (pyO e) = eqd d e
  | n, m, d, e, hd, he => by
    cases d <;> cases e <;> first
      | (simp only [pyO, PyData.eqv, eqd]; done)
      | (cases n <;> simp [plain] at hd; done)
      | (cases m <;> simp [plain] at he; done)
      | (cases n with
         | zero => simp [plain] at hd
         | succ n =>
           cases m with
           | zero => simp [plain] at he
           | succ m =>
             unfold plain at hd he
             simp only [pyO, PyData.eqv, eqd]
             exact eqds_py n m _ _ hd he)
theorem eqds_py : ∀ (n m : Nat) (d e : List D), plains n d = true → plains m e = true → PyData.eqvAll (pyA d) (pyA e) = eqds d e
  | n, m, [], [], _, _ => by simp [pyA, PyData.eqvAll, eqds]
  | n, m, [], _ :: _, _, _ => by simp [pyA, PyData.eqvAll, eqds]
  | n, m, _ :: _, [], _, _ => by simp [pyA, PyData.eqvAll, eqds]
  | n, m, x :: xs, y :: ys, hd, he => by
    unfold plains at hd he
    rw [Bool.and_eq_true] at hd he
    simp only [pyA, PyData.eqvAll, eqds]
    rw [eqd_py n m x y hd.1 he.1, eqds_py n m xs ys hd.2 he.2]
end
def eqOk (d e : D) : Bool := (flatD d && flatD e) || (plain 64 d && plain 64 e)
def eqD (d e : D) : Option D := if eqOk d e = true then some (.bl (eqd d e)) else none
def neD (d e : D) : Option D := if eqOk d e = true then some (.bl (!eqd d e)) else none
section
variable {X : Cx} {T : List (Addr × Str)} {W : WX}
/-- either two scalars that == tells apart, or plain data -/
theorem eq_cases {K : PySem.W.Frag} {F H : Hp} {x y : V} {d e : D} (hz : Fz F H) (rd : Rp K F x d) (re : Rp K F y e) (h : eqOk d e = true) :
    (scal x y = true ∧ decide (x = y) = eqd d e) ∨ (∃ a b, Dp K H x a ∧ Dp K H y b ∧ SeqAt.shaped a = true ∧ SeqAt.shaped b = true ∧ PyData.eqv a b = eqd d e) := by
  have deep : plain 64 d = true → plain 64 e = true → ∃ a b, Dp K H x a ∧ Dp K H y b ∧ SeqAt.shaped a = true ∧ SeqAt.shaped b = true ∧ PyData.eqv a b = eqd d e := fun hd he => by
    obtain ⟨a1, a2, a3⟩ := plain_py 64 d x hd (rd.mono hz.sub)
    obtain ⟨b1, b2, b3⟩ := plain_py 64 e y he (re.mono hz.sub)
    refine ⟨_, _, a1, b1, ?_, ?_, eqd_py 64 64 d e hd he⟩
    · unfold SeqAt.shaped
      rw [a2, decide_eq_true a3] <;> rfl
    · unfold SeqAt.shaped
      rw [b2, decide_eq_true b3] <;> rfl
  unfold eqOk at h
  rw [Bool.or_eq_true, Bool.and_eq_true, Bool.and_eq_true] at h
  rcases h with ⟨h1, h2⟩ | ⟨h1, h2⟩
  · cases rd <;> cases re <;> first
      | (cases h1; done)
      | (cases h2; done)
      | (refine .inr (deep ?_ ?_) <;> simp [plain] <;> done)
      | (refine .inl ⟨rfl, ?_⟩; simp only [eqd]; first | exact dec_str | (simp; done))
  · exact .inr (deep h1 h2)
theorem o_eq (hu : X.A.units + 64 < cLine) : OpR X (compareOp .Eq) (rD2 X.K T eqD) := by
  intro pins s σ H x y v u Q I rx ry h
  obtain ⟨F, d, e, z, hz, rd, re, hG, q⟩ := h
  unfold eqD at hG
  split at hG
  · rename_i hk
    cases hG
    rcases eq_cases hz rd re hk with ⟨h1, h2⟩ | ⟨a, b, h1, h2, h3, h4, h5⟩
    · exact op_eq pins s σ H x y v u Q I rx ry ⟨h1, by rw [h2]; exact done0 hz q (.bl _)⟩
    · exact op_eqD hu pins s σ H x y v u Q I rx ry ⟨a, b, h1, h2, h3, h4, by rw [h5]; exact done0 hz q (.bl _)⟩
  · cases hG
theorem o_ne (hu : X.A.units + 64 < cLine) : OpR X (compareOp .NotEq) (rD2 X.K T neD) := by
  intro pins s σ H x y v u Q I rx ry h
  obtain ⟨F, d, e, z, hz, rd, re, hG, q⟩ := h
  unfold neD at hG
  split at hG
  · rename_i hk
    cases hG
    rcases eq_cases hz rd re hk with ⟨h1, h2⟩ | ⟨a, b, h1, h2, h3, h4, h5⟩
    · exact op_ne pins s σ H x y v u Q I rx ry ⟨h1, by rw [h2]; exact done0 hz q (.bl _)⟩
    · exact op_neD hu pins s σ H x y v u Q I rx ry ⟨a, b, h1, h2, h3, h4, by rw [h5]; exact done0 hz q (.bl _)⟩
  · cases hG
end

/-! ### in, not in -/
def hasS (x y : Str) : Bool := if x.cps.size = 1 then decide (x.cps.getD 0 0 ∈ y.cps.toList) else !(Builtin.Str.occurrences y x 0 y.length 1).isEmpty
def inL (d : D) (xs : List D) : Option Bool := if (flatD d && xs.all flatD) = true then some (xs.any fun y => eqd y d) else if (plain 60 d && plains 60 xs) = true then some (xs.any fun y => eqd y d) else none
def inB : D → D → Option Bool
  | .str x, .str y => some (hasS x y)
  | d, .tup xs => inL d xs
  | d, .lst xs => inL d xs
  | _, _ => none
def inD (d e : D) : Option D := (inB d e).map .bl
def niD (d e : D) : Option D := (inB d e).map fun b => .bl (!b)
section
variable {X : Cx} {T : List (Addr × Str)} {W : WX}
theorem flat_rp {K : PySem.W.Frag} {F : Hp} {v : V} {d : D} (r : Rp K F v d) (h : flatD d = true) : flatV v = true := by
  cases r <;> first | rfl | cases h
theorem flat_all {K : PySem.W.Frag} {F : Hp} : ∀ {vs : List V} {ds : List D}, RpAll K F vs ds → ds.all flatD = true → vs.all flatV = true
  | _, _, .nil, _ => rfl
  | _, _, .cons r t, h => by
    rw [List.all_cons, Bool.and_eq_true] at h
    rw [List.all_cons, flat_rp r h.1, flat_all t h.2] <;> rfl
theorem eqV_eqd {K : PySem.W.Frag} {F : Hp} {v w : V} {d e : D} (r : Rp K F v d) (q : Rp K F w e) (h : flatD d = true) (h2 : flatD e = true) : eqV v w = eqd d e := by
  cases r <;> first
    | (cases h; done)
    | (cases q <;> first | (cases h2; done) | (simp [eqV, eqd]; done))
theorem inV_eq {K : PySem.W.Frag} {F : Hp} {w : V} {e : D} (q : Rp K F w e) (h2 : flatD e = true) : ∀ {vs : List V} {ds : List D}, RpAll K F vs ds → ds.all flatD = true → inV w vs = ds.any fun y => eqd y e
  | _, _, .nil, _ => rfl
  | v :: vs, d :: ds, .cons r t, h => by
    rw [List.all_cons, Bool.and_eq_true] at h
    have ih := inV_eq q h2 t h.2
    unfold inV at ih ⊢
    rw [List.any_cons, List.any_cons, ih, eqV_eqd r q h.1 h2]
theorem one_of {x : Str} (h : x.cps.size = 1) : x = ⟨#[x.cps.getD 0 0]⟩ := by
  obtain ⟨cps⟩ := x
  simp only at h ⊢
  congr 1
  apply Array.ext
  · simp [h]
  · intro i h1 h2
    have : i = 0 := by omega
    subst this
    simp [Array.getD, h]
theorem any_py (d : D) (hd : plain 60 d = true) : ∀ ds : List D, plains 60 ds = true → ((pyA ds).any fun z => PyData.eqv z (pyO d)) = ds.any fun y => eqd y d
  | [], _ => rfl
  | y :: ds, h => by
    have h : (plain 60 y && plains 60 ds) = true := h
    rw [Bool.and_eq_true] at h
    show (PyData.eqv (pyO y) (pyO d) || (pyA ds).any fun z => PyData.eqv z (pyO d)) = _
    rw [eqd_py 60 60 y d h.1 hd, any_py d hd ds h.2]
    rfl
theorem in_deep {pins : List (Addr × Obj)} {s : Shared} {σ : L2.St} {H F : Hp} {x : V} {v u : Value} {a : Addr} {xs : List V} {d : D} {ds : List D} {Q : VK} (hu : X.A.units + 64 < cLine) (I : Inv X pins σ H s) (hz : Fz F H) (rx : RelV x v) (ry : RelV (.ref a) u) (rd : Rp X.K F x d) (hs : SqT X.K F a xs ∨ F a = some (.lst xs)) (r1 : RpAll X.K F xs ds) (hd : plain 60 d = true) (hds : plains 60 ds = true) :
    (Q (.bl (ds.any fun y => eqd y d)) H → wpAny (model X.prog X.w) X.A (compareOp .In v u) (EP X pins σ Q) X.xe s) ∧ (Q (.bl (!ds.any fun y => eqd y d)) H → wpAny (model X.prog X.w) X.A (compareOp .NotIn v u) (EP X pins σ Q) X.xe s) := by
  obtain ⟨a1, a2, a3⟩ := plain_py 60 d x hd (rd.mono hz.sub)
  obtain ⟨b1, b2, b3⟩ := plains_py 60 ds xs hds (r1.mono hz.sub)
  obtain ⟨as, q1⟩ := Dp.reads I _ x v a1 rx
  have room : X.A.units + 1 + min (PyData.depthAll (pyA ds)) (pyO d).depth < cLine := by omega
  rw [← any_py d hd ds hds]
  rcases hs with hs | hs
  · have c1 : Dp X.K H (.ref a) (.tuple (pyA ds)) := Dp.tup (hz.sub.st hs) b1
    obtain ⟨bs, q2⟩ := Dp.reads I _ (.ref a) u c1 ry
    exact ⟨fun q => SeqAt.in_tuple_reads q2 q1 b2 a2 room ⟨.bl _, H, I, rfl, q⟩, fun q => SeqAt.notIn_tuple_reads q2 q1 b2 a2 room ⟨.bl _, H, I, rfl, q⟩⟩
  · have c1 : Dp X.K H (.ref a) (.list (pyA ds)) := Dp.lst (SqL.of (hz.sub _ _ hs)) b1
    obtain ⟨bs, q2⟩ := Dp.reads I _ (.ref a) u c1 ry
    exact ⟨fun q => SeqAt.in_list_reads q2 q1 b2 a2 room ⟨.bl _, H, I, rfl, q⟩, fun q => SeqAt.notIn_list_reads q2 q1 b2 a2 room ⟨.bl _, H, I, rfl, q⟩⟩
theorem o_in (hu : X.A.units + 64 < cLine) : OpR X (compareOp .In) (rD2 X.K T inD) := by
  intro pins s σ H x y v u Q I rx ry h
  obtain ⟨F, d, e, z, hz, rd, re, hG, q⟩ := h
  unfold inD at hG
  cases hb : inB d e with
  | none => rw [hb] at hG; cases hG
  | some b =>
    rw [hb] at hG
    cases hG
    cases re with
    | str y =>
      cases rd with
      | str x =>
        have hb : some (hasS x y) = some b := hb
        unfold hasS at hb
        split at hb
        · rename_i h1
          cases hb
          exact op_in_sign pins s σ H _ _ v u Q I rx ry ⟨x.cps.getD 0 0, y, congrArg V.str (one_of h1), rfl, done0 hz q (.bl _)⟩
        · cases hb
          exact op_in_str pins s σ H _ _ v u Q I rx ry ⟨x, y, rfl, rfl, done0 hz q (.bl _)⟩
      | _ => cases hb
    | tup h1 r1 =>
      rename_i a xs ds
      have hb : inL d ds = some b := by
        cases d <;> exact hb
      unfold inL at hb
      split at hb
      · rename_i hf
        rw [Bool.and_eq_true] at hf
        cases hb
        refine op_in_seq pins s σ H _ _ v u Q I rx ry ⟨a, xs, rfl, .inr (hz.sub.st h1), flat_rp rd hf.1, flat_all r1 hf.2, ?_⟩
        rw [inV_eq rd hf.1 r1 hf.2]
        exact done0 hz q (.bl _)
      · split at hb
        · rename_i hf
          rw [Bool.and_eq_true] at hf
          cases hb
          exact (in_deep hu I hz rx ry rd (.inl h1) r1 hf.1 hf.2).1 (done0 hz q (.bl _))
        · cases hb
    | lst h1 r1 =>
      rename_i a xs ds
      have hb : inL d ds = some b := by
        cases d <;> exact hb
      unfold inL at hb
      split at hb
      · rename_i hf
        rw [Bool.and_eq_true] at hf
        cases hb
        refine op_in_seq pins s σ H _ _ v u Q I rx ry ⟨a, xs, rfl, .inl (SqL.of (hz.sub _ _ h1)), flat_rp rd hf.1, flat_all r1 hf.2, ?_⟩
        rw [inV_eq rd hf.1 r1 hf.2]
        exact done0 hz q (.bl _)
      · split at hb
        · rename_i hf
          rw [Bool.and_eq_true] at hf
          cases hb
          exact (in_deep hu I hz rx ry rd (.inr h1) r1 hf.1 hf.2).1 (done0 hz q (.bl _))
        · cases hb
    | _ => cases rd <;> cases hb
theorem o_ni (hu : X.A.units + 64 < cLine) : OpR X (compareOp .NotIn) (rD2 X.K T niD) := by
  intro pins s σ H x y v u Q I rx ry h
  obtain ⟨F, d, e, z, hz, rd, re, hG, q⟩ := h
  unfold niD at hG
  cases hb : inB d e with
  | none => rw [hb] at hG; cases hG
  | some b =>
    rw [hb] at hG
    cases hG
    cases re with
    | str y =>
      cases rd with
      | str x =>
        have hb : some (hasS x y) = some b := hb
        unfold hasS at hb
        split at hb
        · rename_i h1
          cases hb
          exact op_notIn_sign pins s σ H _ _ v u Q I rx ry ⟨x.cps.getD 0 0, y, congrArg V.str (one_of h1), rfl, done0 hz q (.bl _)⟩
        · cases hb
          exact op_notin_str pins s σ H _ _ v u Q I rx ry ⟨x, y, rfl, rfl, done0 hz q (.bl _)⟩
      | _ => cases hb
    | tup h1 r1 =>
      rename_i a xs ds
      have hb : inL d ds = some b := by
        cases d <;> exact hb
      unfold inL at hb
      split at hb
      · rename_i hf
        rw [Bool.and_eq_true] at hf
        cases hb
        refine op_notIn_seq pins s σ H _ _ v u Q I rx ry ⟨a, xs, rfl, .inr (hz.sub.st h1), flat_rp rd hf.1, flat_all r1 hf.2, ?_⟩
        rw [inV_eq rd hf.1 r1 hf.2]
        exact done0 hz q (.bl _)
      · split at hb
        · rename_i hf
          rw [Bool.and_eq_true] at hf
          cases hb
          exact (in_deep hu I hz rx ry rd (.inl h1) r1 hf.1 hf.2).2 (done0 hz q (.bl _))
        · cases hb
    | lst h1 r1 =>
      rename_i a xs ds
      have hb : inL d ds = some b := by
        cases d <;> exact hb
      unfold inL at hb
      split at hb
      · rename_i hf
        rw [Bool.and_eq_true] at hf
        cases hb
        refine op_notIn_seq pins s σ H _ _ v u Q I rx ry ⟨a, xs, rfl, .inl (SqL.of (hz.sub _ _ h1)), flat_rp rd hf.1, flat_all r1 hf.2, ?_⟩
        rw [inV_eq rd hf.1 r1 hf.2]
        exact done0 hz q (.bl _)
      · split at hb
        · rename_i hf
          rw [Bool.and_eq_true] at hf
          cases hb
          exact (in_deep hu I hz rx ry rd (.inr h1) r1 hf.1 hf.2).2 (done0 hz q (.bl _))
        · cases hb
    | _ => cases rd <;> cases hb
end
end DN
namespace DN
open PySem PySem.Spec PyProof.Rows L2
open LamX (Tabs ExtN)

/-! ### statements -/
inductive SR where
  | nx (ρ : Rho) | rt (d : D) | bk (ρ : Rho) | ct (ρ : Rho) | ex (n : Str) (ρ : Rho) | bad
def bindS {α : Type} (r : Res α) (ρ : Rho) (k : α → SR) : SR := match r with
  | .ok a => k a
  | .ex n => .ex n ρ
  | .bad => .bad
/-- the frame's own objects are new since the entry -/
def Ow (H0 : Hp) (σ : L2.St) (ρ : Rho) : Prop := ∀ (i : Nat) (d : D) (p : Addr), ρ[i]? = some (En.o d) → σ[i]? = some (some (V.ref p)) → ∀ o, H0 p = some o → ∃ ps, o = .tbl ps
structure Sg (K : PySem.W.Frag) (T : List (Addr × Str)) (F0 H0 F H : Hp) (σ : L2.St) (ρ : Rho) : Prop where
  at_ : At K T F H σ ρ
  nx : Nx T F0 H0 F H
  ow : Ow H0 σ ρ
def aftS (K : PySem.W.Frag) (T : List (Addr × Str)) (W : WX) (F0 H0 F : Hp) (Z : Ends) : SR → Prop
  | .nx ρ => ∀ σ F' H', Sg K T F0 H0 F' H' σ ρ → Sub F F' → Z.nx σ H'
  | .bk ρ => ∀ σ F' H', Sg K T F0 H0 F' H' σ ρ → Sub F F' → Z.bk σ H'
  | .ct ρ => ∀ σ F' H', Sg K T F0 H0 F' H' σ ρ → Sub F F' → Z.ct σ H'
  | .rt d => ∀ v F' H', Nx T F0 H0 F' H' → Rp K F' v d → Z.rt v H'
  | .ex n ρ => ∀ σ F' H', Sg K T F0 H0 F' H' σ ρ → Sub F F' → W (.ref (He.ga K n)) none σ H'
  | .bad => False
def tS (K : PySem.W.Frag) (T : List (Addr × Str)) (W : WX) (F0 H0 : Hp) (s : Rho → SR) : TS := fun Z σ H => ∃ ρ F, Sg K T F0 H0 F H σ ρ ∧ aftS K T W F0 H0 F Z (s ρ)
abbrev DS (X : Cx) (T : List (Addr × Str)) (W : WX) (F0 H0 : Hp) (st : Stmt) (s : Rho → SR) : Prop := PS X st (tS X.K T W F0 H0 s)
abbrev DSs (X : Cx) (T : List (Addr × Str)) (W : WX) (F0 H0 : Hp) (st : List Stmt) (s : Rho → SR) : Prop := PSs X st (tS X.K T W F0 H0 s)
section
variable {K : PySem.W.Frag} {T : List (Addr × Str)} {W : WX} {F0 H0 F H F1 H1 : Hp} {σ : L2.St} {ρ : Rho} {Z : Ends}
theorem Sg.step (g : Sg K T F0 H0 F H σ ρ) (n : Nx T F H F1 H1) : Sg K T F0 H0 F1 H1 σ ρ := ⟨g.at_.nx n, g.nx.trans n, g.ow⟩
theorem aftS.mono {r : SR} (e : Sub F F1) (h : aftS K T W F0 H0 F Z r) : aftS K T W F0 H0 F1 Z r := by
  cases r with
  | nx ρ => exact fun σ F' H' g s => h σ F' H' g (e.trans s)
  | bk ρ => exact fun σ F' H' g s => h σ F' H' g (e.trans s)
  | ct ρ => exact fun σ F' H' g s => h σ F' H' g (e.trans s)
  | ex n ρ => exact fun σ F' H' g s => h σ F' H' g (e.trans s)
  | rt d => exact h
  | bad => exact h
theorem aftS.bind {α β : Type} {R : Hp → α → β → Prop} {r : Res β} {k : β → SR} (g : Sg K T F0 H0 F H σ ρ) (h : aftS K T W F0 H0 F Z (bindS r ρ k)) :
    aft R K T W σ F H (fun a H1 => ∃ b F1, r = .ok b ∧ Nx T F H F1 H1 ∧ Sg K T F0 H0 F1 H1 σ ρ ∧ R F1 a b ∧ aftS K T W F0 H0 F1 Z (k b)) r := by
  cases r with
  | ok b => exact fun a F2 H2 n ra => ⟨b, F2, rfl, n, g.step n, ra, aftS.mono n.f h⟩
  | ex m => exact fun F' H' n => h σ F' H' (g.step n) n.f
  | bad => exact h
theorem Ow.set {i : Nat} {v : V} {d : D} (o : Ow H0 σ ρ) : Ow H0 (σ.set i (some v)) (ρ.set i (.z d)) := fun j e p h1 h2 => by
  rw [List.getElem?_set] at h1 h2
  by_cases hij : i = j
  · rw [if_pos hij] at h1
    split at h1 <;> cases h1
  · rw [if_neg hij] at h1 h2
    exact o j e p h1 h2
end
def sskip : Rho → SR := fun ρ => .nx ρ
def sseq (s t : Rho → SR) : Rho → SR := fun ρ => match s ρ with
  | .nx ρ' => t ρ'
  | r => r
def sret (f : Rho → Res D) : Rho → SR := fun ρ => bindS (f ρ) ρ .rt
def sif (c : Rho → Res Bool) (s t : Rho → SR) : Rho → SR := fun ρ => bindS (c ρ) ρ fun b => if b = true then s ρ else t ρ
/-- targets -/
abbrev Tg := Rho → D → Option Rho
abbrev Tgs := Rho → List D → Option Rho
def gn (i : Nat) : Tg := fun ρ d => some (ρ.set i (.z d))
def gsn : Tgs := fun ρ ds => match ds with
  | [] => some ρ
  | _ => none
def gsc (g : Tg) (h : Tgs) : Tgs := fun ρ ds => match ds with
  | d :: r => (g ρ d).bind fun ρ' => h ρ' r
  | [] => none
def gt (n : Nat) (h : Tgs) : Tg := fun ρ d => match d with
  | .tup ds => if ds.length = n then h ρ ds else none
  | .lst ds => if ds.length = n then h ρ ds else none
  | _ => none
def sasg (f : Rho → Res D) (g : Tg) : Rho → SR := fun ρ => bindS (f ρ) ρ fun d => match g ρ d with
  | some ρ' => .nx ρ'
  | none => .bad
def tGd (K : PySem.W.Frag) (T : List (Addr × Str)) (g : Tg) : TG := fun v σ H Q => ∃ ρ F d ρ', At K T F H σ ρ ∧ Rp K F v d ∧ g ρ d = some ρ' ∧ ∀ σ', At K T F H σ' ρ' → (∀ H0, Ow H0 σ ρ → Ow H0 σ' ρ') → Q σ' H
def tGs (K : PySem.W.Frag) (T : List (Addr × Str)) (g : Tgs) : TGs := fun vs σ H Q => ∃ ρ F ds ρ', At K T F H σ ρ ∧ RpAll K F vs ds ∧ g ρ ds = some ρ' ∧ ∀ σ', At K T F H σ' ρ' → (∀ H0, Ow H0 σ ρ → Ow H0 σ' ρ') → Q σ' H
theorem _root_.L2.PG.to {X : Cx} {e : Expr} {t u : TG} (h : PG X e t) (k : ∀ v σ H Q, u v σ H Q → t v σ H Q) : PG X e u := ⟨fun pins s σ H v w Q I r q => h.run pins s σ H v w Q I r (k v σ H Q q)⟩
theorem _root_.L2.PG.or {X : Cx} {e : Expr} {t u : TG} (h : PG X e t) (h2 : PG X e u) : PG X e (fun v σ H Q => t v σ H Q ∨ u v σ H Q) := ⟨fun pins s σ H v w Q I r q => q.elim (h.run pins s σ H v w Q I r) (h2.run pins s σ H v w Q I r)⟩
theorem _root_.L2.PGs.to {X : Cx} {es : List Expr} {t u : TGs} (h : PGs X es t) (k : ∀ v σ H Q, u v σ H Q → t v σ H Q) : PGs X es u := ⟨fun pins s σ H v w Q I r q => h.run pins s σ H v w Q I r (k v σ H Q q)⟩
section
variable {X : Cx} {T : List (Addr × Str)} {W : WX} {F0 H0 : Hp}
abbrev DG (X : Cx) (T : List (Addr × Str)) (e : Expr) (g : Tg) : Prop := PG X e (tGd X.K T g)
abbrev DGs (X : Cx) (T : List (Addr × Str)) (es : List Expr) (g : Tgs) : Prop := PGs X es (tGs X.K T g)
theorem g_name {i : Nat} {e : Expr} (h : PG X e (gName i)) : DG X T e (gn i) := h.to fun v σ H Q ⟨ρ, F, d, ρ', a, r, hg, q⟩ => by
  cases hg
  exact q _ ⟨a.z, a.t, a.r.set r⟩ fun H0 o => o.set
theorem gs_nil : DGs X T [] gsn := pgs_nil.to fun v σ H Q ⟨ρ, F, d, ρ', a, r, hg, q⟩ => by
  cases d with
  | nil =>
    cases r
    cases hg
    exact ⟨rfl, q σ a fun _ o => o⟩
  | cons _ _ => cases hg
theorem gs_cons {e : Expr} {es : List Expr} {g : Tg} {h : Tgs} (h1 : DG X T e g) (h2 : DGs X T es h) (hs : (assignEach (e :: es) X.env).map (·.2) = assign e X.env :: (assignEach es X.env).map (·.2) := by rfl) : DGs X T (e :: es) (gsc g h) :=
  (pgs_cons h1 h2 hs).to fun v σ H Q ⟨ρ, F, d, ρ', a, r, hg, q⟩ => by
    cases d with
    | nil => cases hg
    | cons d ds =>
      cases r with
      | cons r1 r2 =>
        have hg : (g ρ d).bind (fun ρ' => h ρ' ds) = some ρ' := hg
        cases e1 : g ρ d with
        | none => rw [e1] at hg; cases hg
        | some ρ1 =>
          rw [e1] at hg
          have hg : h ρ1 ds = some ρ' := hg
          refine ⟨_, _, rfl, ρ, F, d, ρ1, a, r1, e1, fun σ1 a1 o1 => ?_⟩
          exact ⟨ρ1, F, ds, ρ', a1, r2, hg, fun σ2 a2 o2 => q σ2 a2 fun H0 o => o2 H0 (o1 H0 o)⟩
theorem g_tup {es : List Expr} {k : Nat} {pos : Pos} {h : Tgs} {n : Nat} (hc : X.calm = true) (h1 : DGs X T es h) (hn : (assignEach es X.env).length = n := by rfl) (hst : (assignEach es X.env).findIdx? (·.1) = none := by rfl) : DG X T (.Tuple es k pos) (gt n h) :=
  (PG.or (pg_tup hc h1 hn hst) (pg_unl hc h1 hn hst)).to fun v σ H Q ⟨ρ, F, d, ρ', a, r, hg, q⟩ => by
    cases r with
    | @tup ad xs ds h1 r1 =>
      have hg : (if ds.length = n then h ρ ds else none) = some ρ' := hg
      split at hg
      · rename_i hl
        exact .inl ⟨ad, xs, rfl, a.z.sub.st h1, by rw [r1.length]; exact hl, ρ, F, ds, ρ', a, r1, hg, q⟩
      · cases hg
    | @lst ad xs ds h1 r1 =>
      have hg : (if ds.length = n then h ρ ds else none) = some ρ' := hg
      split at hg
      · rename_i hl
        exact .inr ⟨ad, xs, rfl, SqL.of (a.z.sub _ _ h1), by rw [r1.length]; exact hl, ρ, F, ds, ρ', a, r1, hg, q⟩
      · cases hg
    | _ => cases hg
theorem s_nil : DSs X T W F0 H0 [] sskip := pss_nil.to fun Z σ H ⟨ρ, F, g, h⟩ => h σ F H g (Sub.refl F)
theorem s_one {st : Stmt} {s : Rho → SR} (h : DS X T W F0 H0 st s) : DSs X T W F0 H0 [st] s := pss_one h
theorem s_cons {st : Stmt} {rest : List Stmt} {s t : Rho → SR} (h : DS X T W F0 H0 st s) (h2 : DSs X T W F0 H0 rest t) : DSs X T W F0 H0 (st :: rest) (sseq s t) :=
  (pss_cons h h2).to fun Z σ H ⟨ρ, F, g, h⟩ => by
    refine ⟨ρ, F, g, ?_⟩
    unfold sseq at h
    cases e : s ρ with
    | nx ρ' =>
      rw [e] at h
      exact fun σ' F' H' g' sb => ⟨ρ', F', g', aftS.mono sb h⟩
    | bk ρ' => rw [e] at h; exact h
    | ct ρ' => rw [e] at h; exact h
    | rt d => rw [e] at h; exact h
    | ex n ρ' => rw [e] at h; exact h
    | bad => rw [e] at h; exact h
theorem s_ret {e : Expr} {pos : Pos} {f : Rho → Res D} (h : DE X T W e f) : DS X T W F0 H0 (.Return (some e) pos) (sret f) :=
  (ps_ret h).to fun Z σ H ⟨ρ, F, g, h⟩ => by
    refine ⟨ρ, F, g.at_, (aftS.bind (R := Rp X.K) g h).imp fun d _ v F1 H1 _ _ q => ?_⟩
    obtain ⟨b, F2, _, n, g2, rv, q⟩ := q
    exact q v F2 H1 g2.nx rv
theorem s_if {c : Expr} {a b : List Stmt} {pos : Pos} {f : Rho → Res Bool} {s t : Rho → SR} (hc : DQ X T W c f) (ha : DSs X T W F0 H0 a s) (hb : DSs X T W F0 H0 b t) : DS X T W F0 H0 (.If c a b pos) (sif f s t) :=
  (ps_if hc ha hb).to fun Z σ H ⟨ρ, F, g, h⟩ => by
    refine ⟨ρ, F, g.at_, (aftS.bind (R := RBool) g h).imp fun d _ v F1 H1 _ _ q => ?_⟩
    obtain ⟨b, F2, _, n, g2, rv, q⟩ := q
    obtain rfl : v = b := rv
    cases v with
    | true => exact ⟨ρ, F2, g2, q⟩
    | false => exact ⟨ρ, F2, g2, q⟩
theorem sasg_to {f : Rho → Res D} {g : Tg} {K : PySem.W.Frag} {Z : Ends} {σ : L2.St} {H : Hp} (h : tS K T W F0 H0 (sasg f g) Z σ H) : tAsg (tE K T W f) (tGd K T g) Z σ H := by
  obtain ⟨ρ, F, gg, h⟩ := h
  refine ⟨ρ, F, gg.at_, (aftS.bind (R := Rp K) gg h).imp fun d _ v F1 H1 _ _ q => ?_⟩
  obtain ⟨b, F2, _, n, g2, rv, q⟩ := q
  cases e : g ρ b with
  | none => rw [e] at q; exact q.elim
  | some ρ' =>
    rw [e] at q
    exact ⟨ρ, F2, b, ρ', g2.at_, rv, e, fun σ' a' o' => q σ' F2 H1 ⟨a', g2.nx, o' H0 g2.ow⟩ (Sub.refl F2)⟩
theorem s_asg {tg e : Expr} {pos : Pos} {f : Rho → Res D} {g : Tg} (he : DE X T W e f) (hg : DG X T tg g) (hs : swapsWithSole [tg] e pos.line X.env = pure false := by rfl) (hw : swappedStores [tg] e X.env = pure none := by rfl)
    (h1 : (assignEach [tg] X.env).map (·.2) = [assign tg X.env] := by rfl) : DS X T W F0 H0 (.Assign [tg] e pos) (sasg f g) :=
  (ps_asg he hg hs hw h1).to fun Z σ H h => sasg_to h
end

/-! ### while -/
section
variable {X : Cx} {T : List (Addr × Str)} {W : WX} {F0 H0 : Hp}
end

/-! ### what is walked -/
/-- the walk J gives ds, while F is frozen -/
def Walks (K : PySem.W.Frag) (T : List (Addr × Str)) (F : Hp) (J : It) (ds : List D) : Prop :=
  ∀ (i : Nat) (F' H : Hp), Sub F F' → Fz F' H → (∀ d, ds[i]? = some d → J.go i H ∧ ∀ x H', J.yld i H x H' → ∃ F2, Nx T F' H F2 H' ∧ Rp K F2 x d) ∧ (ds.length ≤ i → J.stop i H)
def tI (K : PySem.W.Frag) (T : List (Addr × Str)) (W : WX) (f : Rho → Res (List D)) : TI := tG (fun K F J ds => Walks K T F J ds) K T W f
abbrev DI (X : Cx) (T : List (Addr × Str)) (W : WX) (tg iter : Expr) (f : Rho → Res (List D)) : Prop := PI X tg iter (tI X.K T W f)
theorem _root_.L2.PI.to {X : Cx} {tg e : Expr} {t u : TI} (h : PI X tg e t) (k : ∀ σ H R, u σ H R → t σ H R) : PI X tg e u := ⟨fun pins s σ H R I q => h.run pins s σ H R I (k σ H R q)⟩
theorem _root_.L2.PI.or {X : Cx} {tg e : Expr} {t u : TI} (h : PI X tg e t) (h2 : PI X tg e u) : PI X tg e (fun σ H R => t σ H R ∨ u σ H R) := ⟨fun pins s σ H R I q => q.elim (h.run pins s σ H R I) (h2.run pins s σ H R I)⟩
def loopD (g : Tg) (s : Rho → SR) : List D → Rho → SR
  | [], ρ => .nx ρ
  | d :: ds, ρ => match g ρ d with
    | none => .bad
    | some ρ1 => match s ρ1 with
      | .nx ρ' => loopD g s ds ρ'
      | .ct ρ' => loopD g s ds ρ'
      | .bk ρ' => .nx ρ'
      | r => r
def sfor (f : Rho → Res (List D)) (g : Tg) (s : Rho → SR) : Rho → SR := fun ρ => bindS (f ρ) ρ fun ds => loopD g s ds ρ
section
variable {X : Cx} {T : List (Addr × Str)} {W : WX} {F0 H0 : Hp}
theorem s_for {tg iter : Expr} {body : List Stmt} {pos : Pos} {f : Rho → Res (List D)} {g : Tg} {s : Rho → SR} (hp : PassesOwn (model X.prog X.w) X.A X.env X.xe) (hc : X.calm = true) (hi : DI X T W tg iter f) (hg : DG X T tg g) (hb : DSs X T W F0 H0 body s)
    (hs : ∀ x, foldedSetIterable iter X.env x = pure x := by intro _; rfl) : DS X T W F0 H0 (.For tg iter body [] pos) (sfor f g s) :=
  (ps_for hp hc hi hg hb hs).to fun Z σ H ⟨ρ, F, gg, h⟩ => by
    refine ⟨ρ, F, gg.at_, (aftS.bind (R := fun F J ds => Walks X.K T F J ds) gg h).imp fun d _ J F1 H1 _ _ q => ?_⟩
    obtain ⟨ds, F2, _, n, g2, wk, q⟩ := q
    refine ⟨fun i m σ H => m = ds.length - i ∧ i ≤ ds.length ∧ ∃ ρ F', Sg X.K T F0 H0 F' H σ ρ ∧ Sub F2 F' ∧ aftS X.K T W F0 H0 F' Z (loopD g s (ds.drop i) ρ), ⟨ds.length, by omega, by omega, ρ, F2, g2, Sub.refl F2, q⟩, ?_⟩
    rintro i m σ H ⟨rfl, hi, ρ, F3, g3, sb, q⟩
    obtain ⟨wg, ws⟩ := wk i F3 H sb g3.at_.z
    by_cases hlt : i < ds.length
    · have e : ds[i]? = some ds[i] := List.getElem?_eq_getElem hlt
      obtain ⟨go, yl⟩ := wg _ e
      refine .inr ⟨go, fun σ' H' => ∃ ρ' F', Sg X.K T F0 H0 F' H' σ' ρ' ∧ Sub F2 F' ∧ aftS X.K T W F0 H0 F' Z (loopD g s (ds.drop (i + 1)) ρ'), fun σ' H' w => ⟨ds.length - (i + 1), by omega, rfl, by omega, w⟩, fun x H' y => ?_⟩
      obtain ⟨F4, n4, rx⟩ := yl x H' y
      rw [List.drop_eq_getElem_cons hlt] at q
      have g4 := g3.step n4
      have q : aftS X.K T W F0 H0 F3 Z (match g ρ ds[i] with
        | none => .bad
        | some ρ1 => match s ρ1 with
          | .nx ρ' => loopD g s (ds.drop (i + 1)) ρ'
          | .ct ρ' => loopD g s (ds.drop (i + 1)) ρ'
          | .bk ρ' => .nx ρ'
          | r => r) := q
      cases eg : g ρ ds[i] with
      | none => rw [eg] at q; exact q.elim
      | some ρ1 =>
        rw [eg] at q
        have q : aftS X.K T W F0 H0 F3 Z (match s ρ1 with
          | .nx ρ' => loopD g s (ds.drop (i + 1)) ρ'
          | .ct ρ' => loopD g s (ds.drop (i + 1)) ρ'
          | .bk ρ' => .nx ρ'
          | r => r) := q
        refine ⟨ρ, F4, ds[i], ρ1, g4.at_, rx, eg, fun σ1 a1 o1 => ⟨ρ1, F4, ⟨a1, g4.nx, o1 H0 g4.ow⟩, ?_⟩⟩
        cases e2 : s ρ1 with
        | nx ρ' => rw [e2] at q; exact fun σ' F' H' g' sb' => ⟨ρ', F', g', (sb.trans n4.f).trans sb', aftS.mono (n4.f.trans sb') q⟩
        | ct ρ' => rw [e2] at q; exact fun σ' F' H' g' sb' => ⟨ρ', F', g', (sb.trans n4.f).trans sb', aftS.mono (n4.f.trans sb') q⟩
        | bk ρ' => rw [e2] at q; exact fun σ' F' H' g' sb' => q σ' F' H' g' (n4.f.trans sb')
        | rt d => rw [e2] at q; exact q
        | ex n ρ' => rw [e2] at q; exact fun σ' F' H' g' sb' => q σ' F' H' g' (n4.f.trans sb')
        | bad => rw [e2] at q; exact q
    · have e : i = ds.length := by omega
      subst e
      refine .inl ⟨ws (Nat.le_refl _), ?_⟩
      rw [List.drop_length] at q
      exact q σ F3 H g3 (Sub.refl F3)

/-! the walks -/
def itemsD : D → Res (List D)
  | .tup xs => .ok xs
  | .lst xs => .ok xs
  | .arr ns => .ok (ns.map .int)
  | .str x => .ok (x.cps.toList.map fun c => .str ⟨#[c]⟩)
  | _ => .bad
def its (f : Rho → Res D) : Rho → Res (List D) := fun ρ => (f ρ).bind itemsD
theorem walks_list {K : PySem.W.Frag} {F : Hp} {a : Addr} {xs : List V} {ds : List D} (h : SqL K F a xs) (r : RpAll K F xs ds) : Walks K T F (Itl K a) ds := fun i F' H sb z => by
  have hl : SqL K H a xs := (sb.trans z.sub).sl h
  refine ⟨fun d hd => ?_, fun hle => ⟨xs, hl, by rw [r.length]; exact hle⟩⟩
  obtain ⟨v, hv, rv⟩ := r.get hd
  refine ⟨⟨xs, v, hl, hv⟩, fun x H' y => ?_⟩
  obtain ⟨rfl, y⟩ := y
  have e := y xs hl
  rw [hv] at e
  cases e
  exact ⟨F', Nx.refl z, rv.mono sb⟩
theorem walks_tup {K : PySem.W.Frag} {F : Hp} {a : Addr} {xs : List V} {ds : List D} (h : SqT K F a xs) (r : RpAll K F xs ds) : Walks K T F (Itt K a) ds := fun i F' H sb z => by
  have hl : SqT K H a xs := (sb.trans z.sub).st h
  refine ⟨fun d hd => ?_, fun hle => ⟨xs, hl, by rw [r.length]; exact hle⟩⟩
  obtain ⟨v, hv, rv⟩ := r.get hd
  refine ⟨⟨xs, v, hl, hv⟩, fun x H' y => ?_⟩
  obtain ⟨rfl, y⟩ := y
  have e := y xs hl
  rw [hv] at e
  cases e
  exact ⟨F', Nx.refl z, rv.mono sb⟩
end
end DN
namespace DN
open PySem PySem.Spec PyProof.Rows L2
open LamX (Tabs ExtN)

/-! ### the walks of for and of comprehensions -/
section
variable {X : Cx} {T : List (Addr × Str)} {W : WX} {F0 H0 : Hp}
theorem walks_str {K : PySem.W.Frag} {F : Hp} {x : Str} : Walks K T F (Its x) (x.cps.toList.map fun c => D.str ⟨#[c]⟩) := fun i F' H sb z => by
  refine ⟨fun d hd => ?_, fun hle => ?_⟩
  · rw [List.getElem?_map] at hd
    cases e : x.cps.toList[i]? with
    | none => rw [e] at hd; cases hd
    | some c =>
      rw [e] at hd
      cases hd
      have hi : i < x.cps.size := by
        have := (List.getElem?_eq_some_iff.mp e).1
        simpa using this
      refine ⟨hi, fun v H' y => ?_⟩
      obtain ⟨rfl, c', hc', rfl⟩ := y
      have e2 : x.cps[i]? = some c := by simpa using e
      rw [e2] at hc'
      cases hc'
      exact ⟨F', Nx.refl z, .str _⟩
  · show x.cps.size ≤ i
    simpa using hle
theorem i_any {tg l : Expr} {f : Rho → Res D} (h : DE X T W l f) : DI X T W tg l (its f) :=
  ((pi_list h).or ((pi_tup h).or (pi_str h))).to fun σ H R ⟨ρ, F, a, h⟩ => by
    have h : aft (fun F J ds => Walks X.K T F J ds) X.K T W σ F H R ((f ρ).bind itemsD) := h
    cases e : f ρ with
    | bad => rw [e] at h; exact h.elim
    | ex n =>
      rw [e] at h
      exact .inl ⟨ρ, F, a, by rw [e]; exact h⟩
    | ok d =>
      rw [e] at h
      have h : aft (fun F J ds => Walks X.K T F J ds) X.K T W σ F H R (itemsD d) := h
      cases d with
      | lst ds =>
        refine .inl ⟨ρ, F, a, ?_⟩
        rw [e]
        intro v F' H' n r
        cases r with
        | lst h1 r1 => exact ⟨_, rfl, ⟨_, SqL.of (n.z.sub _ _ h1)⟩, h _ F' H' n (walks_list (SqL.of h1) r1)⟩
      | arr ns =>
        refine .inl ⟨ρ, F, a, ?_⟩
        rw [e]
        intro v F' H' n r
        cases r with
        | arr h1 => exact ⟨_, rfl, ⟨_, n.z.sub.sl h1⟩, h _ F' H' n (walks_list h1 (RpAll.ints ns))⟩
      | tup ds =>
        refine .inr (.inl ⟨ρ, F, a, ?_⟩)
        rw [e]
        intro v F' H' n r
        cases r with
        | tup h1 r1 => exact ⟨_, rfl, ⟨_, n.z.sub.st h1⟩, h _ F' H' n (walks_tup h1 r1)⟩
      | str x =>
        refine .inr (.inr ⟨ρ, F, a, ?_⟩)
        rw [e]
        intro v F' H' n r
        cases r
        exact ⟨x, rfl, h _ F' H' n walks_str⟩
      | _ => exact h.elim
def rngD (lo : Int) (n : Nat) : List D := (List.range n).map fun (i : Nat) => D.int (lo + (i : Int))
theorem walks_rng {K : PySem.W.Frag} {F : Hp} {lo : Int} {n : Nat} : Walks K T F (Itr lo n) (rngD lo n) := fun i F' H sb z => by
  refine ⟨fun d hd => ?_, fun hle => ?_⟩
  · unfold rngD at hd
    rw [List.getElem?_map] at hd
    cases e : (List.range n)[i]? with
    | none => rw [e] at hd; cases hd
    | some j =>
      rw [e] at hd
      cases hd
      obtain ⟨h1, h2⟩ := List.getElem?_eq_some_iff.mp e
      rw [List.getElem_range] at h2
      rw [List.length_range] at h1
      subst h2
      refine ⟨h1, fun v H' y => ?_⟩
      obtain ⟨rfl, rfl⟩ := y
      exact ⟨F', Nx.refl z, .int _⟩
  · unfold rngD at hle
    rw [List.length_map, List.length_range] at hle
    exact hle
def rng1 (f : Rho → Res (List D)) : Rho → Res (List D) := fun ρ => (f ρ).bind fun ds => match ds with
  | [.int j] => if -(2 ^ 62) ≤ j ∧ j < 2 ^ 62 then .ok (rngD 0 j.toNat) else .bad
  | _ => .bad
theorem i_rng1 {tg a : Expr} {p pos : Pos} {f : Rho → Res (List D)} (hg : Gl X "range") (hm : X.mg "range" = none) (ha : DA X T W [a] f) (hs : starEach [a] X.env = [(false, eval a X.env)] := by rfl) : DI X T W tg (.Call (.Name "range" p) [a] [] pos) (rng1 f) :=
  (pi_range1 hg hm ha hs).to fun σ H R ⟨ρ, F, a, h⟩ => by
    refine ⟨ρ, F, a, (aft.bind (R := RpAll X.K) h).imp fun d _ v F1 H1 _ _ q => ?_⟩
    obtain ⟨ds, F2, _, n, rv, q⟩ := q
    match ds, rv, q with
    | [.int j], .cons (.int _) .nil, q =>
      have q : aft (fun F J ds => Walks X.K T F J ds) X.K T W σ F2 H1 R (if -(2 ^ 62) ≤ j ∧ j < 2 ^ 62 then .ok (rngD 0 j.toNat) else .bad) := q
      split at q
      · rename_i hj
        exact ⟨j, rfl, hj.1, hj.2, q _ F2 H1 (Nx.refl n.z) walks_rng⟩
      · exact q.elim
end

/-! ### comprehensions -/
def wipeR (ρ : Rho) : List Nat → Rho
  | [] => ρ
  | v :: vs => (wipeR ρ vs).set v .u
def compD (g : Tg) (t : Rho → Res Bool) (e : Rho → Res D) (ρ : Rho) : List D → Res (List D)
  | [] => .ok []
  | d :: ds => match g ρ d with
    | none => .bad
    | some ρ1 => match t ρ1 with
      | .ok b => if b = true then (match e ρ1 with
        | .ok y => (compD g t e ρ ds).bind fun ys => .ok (y :: ys)
        | _ => .bad) else compD g t e ρ ds
      | _ => .bad
def lcD (f : Rho → Res (List D)) (i : Nat) (t : Rho → Res Bool) (e : Rho → Res D) : Rho → Res D := fun ρ => (f ρ).bind fun ds => if ds.length < sizeLine then (compD (gn i) t e (ρ.set i .u) ds).bind fun ys => .ok (.lst ys) else .bad
def yes : Rho → Res Bool := fun _ => .ok true
theorem tabs_upd {T : List (Addr × Str)} {H : Hp} {p : Addr} {xs : List V} {o : HO} (h : Tabs T H) (e : H p = some (.lst xs)) : Tabs T (upd H p o) := fun q hq => by
  obtain ⟨ps, h1, h2, h3⟩ := h q hq
  refine ⟨ps, ?_, h2, fun pos cv hc => ?_⟩
  · rw [upd_ne fun z => by rw [z, e] at h1; cases h1]; exact h1
  · obtain ⟨c, e1, e2⟩ := h3 pos cv hc
    refine ⟨c, e1, ?_⟩
    rw [upd_ne fun z => by rw [z, e] at e2; unfold LamX.CodeO at e2; cases e2]; exact e2
section
variable {X : Cx} {T : List (Addr × Str)} {W : WX} {F0 H0 : Hp}
abbrev W0 : WX := fun _ _ _ _ => False
theorem no_ex {α β : Type} {R : Hp → α → β → Prop} {K : PySem.W.Frag} {σ : L2.St} {F H : Hp} {Q : α → Hp → Prop} {r : Res β} (z : Fz F H) {b : β} (e : r = .ok b) (h : ∀ a F' H', Nx T F H F' H' → R F' a b → Q a H') : aft R K T W0 σ F H Q r := by
  rw [e]; exact h
theorem lc_to {K : PySem.W.Frag} {f : Rho → Res (List D)} {i : Nat} {t : Rho → Res Bool} {e : Rho → Res D} {σ : L2.St} {H : Hp} {Q : VK} (h : tE K T W (lcD f i t e) σ H Q) :
    tLc (tI K T W f) (gName i) (tT K T W0 t) (tE K T W0 e) [i] σ H Q := by
  obtain ⟨ρ, F, a, h⟩ := h
  refine ⟨ρ, F, a, (aft.bind (R := fun F J ds => Walks K T F J ds) h).imp fun d _ J F1 H1 _ _ q => ?_⟩
  obtain ⟨ds, F2, _, n, wk, q⟩ := q
  have q : aft (Rp K) K T W σ F2 H1 Q (if ds.length < sizeLine then (compD (gn i) t e (ρ.set i .u) ds).bind fun ys => .ok (.lst ys) else .bad) := q
  split at q
  · rename_i hlen
    cases hc : compD (gn i) t e (ρ.set i .u) ds with
    | bad => rw [hc] at q; exact q.elim
    | ex m =>
      exfalso
      have : ∀ ds : List D, compD (gn i) t e (ρ.set i .u) ds ≠ .ex m := fun ds => by
        induction ds with
        | nil => intro z; cases z
        | cons d ds ih =>
          intro z
          unfold compD at z
          simp only [gn] at z
          split at z
          · split at z
            · split at z
              · cases e2 : compD (gn i) t e (ρ.set i .u) ds with
                | ok ys => rw [e2] at z; cases z
                | ex m' =>
                  rw [e2] at z
                  cases z
                  exact ih e2
                | bad => rw [e2] at z; cases z
              · cases z
            · exact ih z
          · cases z
      exact this ds hc
    | ok ys =>
      rw [hc] at q
      have a2 := a.nx n
      intro p hp
      -- behind k turns
      refine ⟨fun k m H => m = ds.length - k ∧ k ≤ ds.length ∧ ∃ F' acc dacc rest, Nx T F2 H1 F' H ∧ F' p = none ∧ H p = some (.lst acc) ∧ RpAll K F' acc dacc ∧ acc.length ≤ k ∧ compD (gn i) t e (ρ.set i .u) (ds.drop k) = .ok rest ∧ dacc ++ rest = ys,
        ⟨ds.length, by omega, by omega, F2, [], [], ys, Nx.lay n.z hp, ?_, upd_same, .nil, by simp, hc, rfl⟩, ?_⟩
      · cases z : F2 p with
        | none => rfl
        | some o =>
          have := n.z.sub _ _ z
          rw [hp] at this; cases this
      rintro k m H ⟨rfl, hk, F', acc, dacc, rest, nx, hFp, hHp, ra, la, hr, hy⟩
      obtain ⟨wg, ws⟩ := wk k F' H nx.f nx.z
      by_cases hlt : k < ds.length
      · obtain ⟨go, yl⟩ := wg _ (List.getElem?_eq_getElem hlt)
        rw [List.drop_eq_getElem_cons hlt] at hr
        unfold compD at hr
        simp only [gn] at hr
        refine .inr ⟨go, fun H => ∃ F' acc dacc rest, Nx T F2 H1 F' H ∧ F' p = none ∧ H p = some (.lst acc) ∧ RpAll K F' acc dacc ∧ acc.length ≤ k + 1 ∧ compD (gn i) t e (ρ.set i .u) (ds.drop (k + 1)) = .ok rest ∧ dacc ++ rest = ys, fun H' w => ⟨ds.length - (k + 1), by omega, rfl, by omega, w⟩, fun x H' y => ?_⟩
        obtain ⟨F3, n3, rx⟩ := yl x H' y
        have hp3 : H' p = some (.lst acc) := n3.keep hHp ntL
        have hf3 : F3 p = none := n3.out hHp ntL hFp
        have a3 : At K T F3 H' (σ.set i none) (ρ.set i .u) := ⟨n3.z, (nx.trans n3).tab a2.t, (a2.r.mono (nx.trans n3)).wipe1⟩
        have a4 : At K T F3 H' ((σ.set i none).set i (some x)) ((ρ.set i .u).set i (.z ds[k])) := ⟨a3.z, a3.t, a3.r.set rx⟩
        show wipe ((σ.set i none).set i (some x)) [i] = wipe σ [i] ∧ _
        refine ⟨?_, ?_⟩
        · show ((σ.set i none).set i (some x)).set i none = σ.set i none
          rw [List.set_set, List.set_set]
        · cases ht : t ((ρ.set i .u).set i (.z ds[k])) with
          | bad => rw [ht] at hr; cases hr
          | ex m => rw [ht] at hr; cases hr
          | ok b =>
            rw [ht] at hr
            refine ⟨_, F3, a4, no_ex a4.z ht fun b' F4 H4 n4 rb => ?_⟩
            obtain rfl : b' = b := rb
            cases b' with
            | false =>
              show ∃ F' acc dacc rest, _
              have hr : compD (gn i) t e (ρ.set i .u) (ds.drop (k + 1)) = .ok rest := hr
              exact ⟨F4, acc, dacc, rest, (nx.trans n3).trans n4, n4.out hp3 ntL hf3, n4.keep hp3 ntL, ra.mono (n3.trans n4).f, by omega, hr, hy⟩
            | true =>
              have hr : (match e ((ρ.set i .u).set i (.z ds[k])) with
                | .ok y => (compD (gn i) t e (ρ.set i .u) (ds.drop (k + 1))).bind fun ys => .ok (y :: ys)
                | _ => .bad) = .ok rest := hr
              cases he : e ((ρ.set i .u).set i (.z ds[k])) with
              | bad => rw [he] at hr; cases hr
              | ex m => rw [he] at hr; cases hr
              | ok y =>
                rw [he] at hr
                have hr : (compD (gn i) t e (ρ.set i .u) (ds.drop (k + 1))).bind (fun ys => .ok (y :: ys)) = .ok rest := hr
                cases hr2 : compD (gn i) t e (ρ.set i .u) (ds.drop (k + 1)) with
                | bad => rw [hr2] at hr; cases hr
                | ex m => rw [hr2] at hr; cases hr
                | ok rest' =>
                  rw [hr2] at hr
                  cases hr
                  show tE K T W0 e _ H4 _
                  refine ⟨_, F4, a4.nx n4, no_ex n4.z he fun v F5 H5 n5 rv => ?_⟩
                  have hp5 : H5 p = some (.lst acc) := (n4.trans n5).keep hp3 ntL
                  have hf5 : F5 p = none := (n4.trans n5).out hp3 ntL hf3
                  have n6 := (nx.trans n3).trans (n4.trans n5)
                  refine ⟨acc, hp5, by omega, F5, acc ++ [v], dacc ++ [y], rest', ⟨n6.f, ⟨fun b o eb => ?_, n6.z.nt⟩, fun b o eb no => ?_, n6.new, fun tb => tabs_upd (n6.tab tb) hp5⟩, hf5, upd_same, ?_, by rw [List.length_append]; simp; omega, rfl, by rw [List.append_assoc]; exact hy⟩
                  · rw [upd_ne fun z => by rw [z, hf5] at eb; cases eb]
                    exact n6.z.sub _ _ eb
                  · rw [upd_ne fun z => by rw [z, hp] at eb; cases eb]
                    exact n6.h _ _ eb no
                  · exact (ra.mono ((n3.trans n4).trans n5).f).append (.cons rv .nil)
      · have ek : k = ds.length := by omega
        subst ek
        refine .inl ⟨ws (Nat.le_refl _), ?_⟩
        rw [List.drop_length] at hr
        cases hr
        rw [List.append_nil] at hy
        subst hy
        refine q (.ref p) (upd F' p (.lst acc)) H ⟨fun b o eb => ?_, ⟨fun b o eb => ?_, fun b ps eb => ?_⟩, nx.h, fun b o eb => ?_, nx.tab⟩ (.lst upd_same (ra.mono fun b o eb => ?_))
        · rw [upd_ne fun z => by rw [z] at eb; rw [nx.f _ _ eb] at hFp; cases hFp]
          exact nx.f _ _ eb
        · by_cases hb : b = p
          · subst hb; rw [upd_same] at eb; rw [← eb]; exact hHp
          · rw [upd_ne hb] at eb; exact nx.z.sub _ _ eb
        · by_cases hb : b = p
          · subst hb; rw [upd_same] at eb; cases eb
          · rw [upd_ne hb] at eb; exact nx.z.nt _ _ eb
        · by_cases hb : b = p
          · subst hb
            exact .inr fun o' e' => by rw [hp] at e'; cases e'
          · rw [upd_ne hb] at eb; exact nx.new _ _ eb
        · rw [upd_ne fun z => by rw [z, hFp] at eb; cases eb]; exact eb
  · exact q.elim
theorem ts_nil : PTs X [] (tT X.K T W yes) := ⟨fun pins s σ H Q I ⟨ρ, F, a, h⟩ => pts_nil.run pins s σ H Q I (h true F H (Nx.refl a.z) rfl)⟩
theorem ts_one {c : Expr} {f : Rho → Res Bool} (h : DQ X T W c f) : PTs X [c] (tT X.K T W f) := pts_one h
theorem e_lc {elt tg iter : Expr} {ifs : List Expr} {scope : Scope} {x : Str} {i : Nat} {pos : Pos} {f : Rho → Res (List D)} {t : Rho → Res Bool} {e : Rho → Res D} (hc : X.calm = true) (hN : X.N.Nodup) (hi : DI X T W tg iter f) (ok : BlkOk X.N X.env.scope scope [(x, i)])
    (hg : ∀ (s : Shared) (H : Hp) (C : Addr) (cl : List (Str × Addr)) (fp : List Addr), PG (X.blk s H scope (compEnvC scope cl C X.env) fp) tg (gName i))
    (ht : ∀ (s : Shared) (H : Hp) (C : Addr) (cl : List (Str × Addr)) (fp : List Addr), PTs (X.blk s H scope (compEnvC scope cl C X.env) fp) ifs (tT X.K T W0 t))
    (he : ∀ (s : Shared) (H : Hp) (C : Addr) (cl : List (Str × Addr)) (fp : List Addr), DE (X.blk s H scope (compEnvC scope cl C X.env) fp) T W0 elt e) (hs : ∀ x, foldedSetIterable iter X.env x = pure x := by intro _; rfl) :
    DE X T W (.ListComp elt [⟨tg, iter, ifs, 0⟩] scope pos) (lcD f i t e) :=
  (pe_lc (own := [(x, i)]) hc hN hi ok hg ht he hs).to fun _ _ _ h => lc_to h
theorem s_setLc {j : Nat} {y : Str} {py : Pos} {elt tg iter : Expr} {ifs : List Expr} {scope : Scope} {x : Str} {i : Nat} {pos spos : Pos} {f : Rho → Res (List D)} {t : Rho → Res Bool} {e : Rho → Res D} (hc : X.calm = true) (hN : X.N.Nodup) (hy : X.N[j]? = some y) (hyl : X.env.scope.names.lookup y = some .local)
    (hsw : swapsWith (.ListComp elt [⟨tg, iter, ifs, 0⟩] scope pos) (some (.Name y py)) spos.line X.env = pure true) (hi : DI X T W tg iter f) (ok : BlkOk X.N X.env.scope scope [(x, i)])
    (hg : ∀ (s : Shared) (H : Hp) (C : Addr) (cl : List (Str × Addr)) (fp : List Addr), PG (X.blk s H scope (compEnvC scope cl C X.env) fp) tg (gName i))
    (ht : ∀ (s : Shared) (H : Hp) (C : Addr) (cl : List (Str × Addr)) (fp : List Addr), PTs (X.blk s H scope (compEnvC scope cl C X.env) fp) ifs (tT X.K T W0 t))
    (he : ∀ (s : Shared) (H : Hp) (C : Addr) (cl : List (Str × Addr)) (fp : List Addr), DE (X.blk s H scope (compEnvC scope cl C X.env) fp) T W0 elt e) (hs : ∀ x, foldedSetIterable iter X.env x = pure x := by intro _; rfl) :
    DS X T W F0 H0 (.Assign [.Name y py] (.ListComp elt [⟨tg, iter, ifs, 0⟩] scope pos) spos) (sasg (lcD f i t e) (gn j)) :=
  (ps_setLc (own := [(x, i)]) hc hN hy hyl hsw hi ok hg ht he hs).to fun Z σ H h => by
    have h2 := sasg_to h
    obtain ⟨ρ, F, a, h2⟩ := h2
    refine lc_to ⟨ρ, F, a, h2.imp fun d _ v F1 H1 n r q => ?_⟩
    obtain ⟨ρ2, F2, d2, ρ3, a2, r2, hg2, q⟩ := q
    cases hg2
    exact q _ ⟨a2.z, a2.t, a2.r.set r2⟩ fun H0 o => o.set
end

/-! ### defs -/
def startR (n : Nat) (ds : List D) : Rho := ds.map En.z ++ List.replicate (n - ds.length) .u
def runB (n : Nat) (s : Rho → SR) (ds : List D) : Res D := match s (startR n ds) with
  | .nx _ => .ok .non
  | .rt d => .ok d
  | .ex m _ => .ex m
  | _ => .bad
abbrev WofE (E : XK) : WX := fun cls d _ H => E cls d H
def spD (K : PySem.W.Frag) (T : List (Addr × Str)) (n : Nat) (den : List D → Res D) : Sp := fun vs H Q E => ∃ F ds, Fz F H ∧ Tabs T H ∧ RpAll K F vs ds ∧ ds.length = n ∧ aft (Rp K) K T (WofE E) [] F H Q (den ds)
def callD (n : Nat) (den : List D → Res D) (f : Rho → Res (List D)) : Rho → Res D := fun ρ => (f ρ).bind fun ds => if ds.length = n then den ds else .bad
theorem Rl.start {K : PySem.W.Frag} {F H : Hp} {vs : List V} {ds : List D} {N : List Str} (r : RpAll K F vs ds) : Rl K F H (L2.start N vs) (startR N.length ds) := by
  have hl := r.length
  have key : ∀ (i : Nat) (en : En), (startR N.length ds)[i]? = some en → (∃ d, ds[i]? = some d ∧ en = .z d) ∨ en = .u := fun i en h => by
    unfold startR at h
    rw [List.getElem?_append] at h
    split at h
    · rw [List.getElem?_map] at h
      cases e : ds[i]? with
      | none => rw [e] at h; cases h
      | some d => rw [e] at h; cases h; exact .inl ⟨d, rfl, rfl⟩
    · rw [List.getElem?_replicate] at h
      split at h
      · cases h; exact .inr rfl
      · cases h
  refine ⟨?_, fun i d h => ?_, fun i d h => ?_, fun i j d e p q _ h => ?_⟩
  · unfold L2.start startR
    simp [hl]
  · rcases key i _ h with ⟨d', e, z⟩ | z
    · cases z
      obtain ⟨v, hv, rv⟩ := r.get e
      refine ⟨v, ?_, rv⟩
      unfold L2.start
      rw [List.getElem?_append_left (by rw [List.length_map]; exact (List.getElem?_eq_some_iff.mp hv).1), List.getElem?_map, hv]
      rfl
    · cases z
  · rcases key i _ h with ⟨d', e, z⟩ | z <;> cases z
  · rcases key i _ h with ⟨d', e, z⟩ | z <;> cases z
structure OkD (P : Program) (w : World) (K : PySem.W.Frag) (mg : Str → Option Value) (base : Heap) (T : List (Addr × Str)) (k : Nat) (x : Str) (n : Nat) (den : List D → Res D) : Prop where
  ex : ∃ fd ps, FnOk P w K mg base (L2.CX P w) k (He.ga K x) fd ps (spD K T n den) ∧ Binds K fd ps []
  kp : PySem.W.keepIn K (.ref (He.ga K x)) = true
  mg : mg x = some (.ref (He.ga K x))
theorem fn_ok {P : Program} {w : World} {K : PySem.W.Frag} {mg : Str → Option Value} {base : Heap} {T : List (Addr × Str)} {k : Nat} {x qual : Str} {params : Arguments} {body : List Stmt} {scope : Scope} {kws : List (Str × V)} {f : Addr} {fd : FuncData} {N ps : List Str} {n : Nat} {s : Rho → SR}
    (Fd : FunD K x qual params body scope [] kws f fd) (S : FnScope N ps scope) (hn : ps.length = n)
    (hb : ∀ (cdv : Value) (A : Around) (outer : List Env) (s0 : Shared) (H0 : Hp) (E : XK) (F0 : Hp), Room k (A.deeper (envOfC qual scope s0.heap.objs.size f cdv)) → DSs (cxOf (L2.CX P w) P w K mg base N qual scope f cdv A outer s0 H0 E) T (WofE E) F0 H0 body s) :
    FnOk P w K mg base (L2.CX P w) (k + 1) f fd ps (spD K T n (runB N.length s)) := by
  refine Fd.ok S (fun vs H Q E h => ?_) fun cdv A outer s0 H vs Q E hr h => ?_
  · obtain ⟨F, ds, _, _, r, hl, _⟩ := h
    rw [r.length, hl, hn]
  · obtain ⟨F, ds, z, tb, r, hl, h⟩ := h
    refine ⟨_, hb cdv A outer s0 H E F hr, startR N.length ds, F, ⟨⟨z, tb, Rl.start r⟩, Nx.refl z, fun i d p h1 => ?_⟩, ?_⟩
    · exfalso
      have o := (Rl.start (K := K) (F := F) (H := H) (N := N) r)
      unfold startR at h1
      rw [List.getElem?_append] at h1
      split at h1
      · rw [List.getElem?_map] at h1
        cases e : ds[i]? with
        | none => rw [e] at h1; cases h1
        | some d => rw [e] at h1; cases h1
      · rw [List.getElem?_replicate] at h1
        split at h1 <;> cases h1
    · unfold runB at h
      cases e : s (startR N.length ds) with
      | nx ρ => rw [e] at h; exact fun σ F' H' g _ => h .non F' H' g.nx .non
      | rt d => rw [e] at h; exact fun v F' H' nx rv => h v F' H' nx rv
      | ex m ρ => rw [e] at h; exact fun σ F' H' g _ => h F' H' g.nx
      | bk ρ => rw [e] at h; exact h.elim
      | ct ρ => rw [e] at h; exact h.elim
      | bad => rw [e] at h; exact h.elim
section
variable {X : Cx} {T : List (Addr × Str)} {W : WX} {F0 H0 : Hp}
theorem call_to {K : PySem.W.Frag} {n : Nat} {den : List D → Res D} {f : Rho → Res (List D)} {σ : L2.St} {H : Hp} {Q : VK} (h : tE K T W (callD n den f) σ H Q) : tCallS (spD K T n den) (WE W) (tA K T W f) σ H Q := by
  obtain ⟨ρ, F, a, h⟩ := h
  refine ⟨ρ, F, a, (aft.bind (R := RpAll K) h).imp fun d _ v F1 H1 _ _ q => ?_⟩
  obtain ⟨b, F2, _, nx, rv, q⟩ := q
  have q : aft (Rp K) K T W σ F2 H1 Q (if b.length = n then den b else .bad) := q
  split at q
  · rename_i hl
    refine ⟨F2, b, nx.z, nx.tab a.t, rv, hl, ?_⟩
    cases e : den b with
    | ok d => rw [e] at q; exact q
    | ex m => rw [e] at q; exact q
    | bad => rw [e] at q; exact q.elim
  · exact q.elim
theorem e_call {j k n : Nat} {x : Str} {den : List D → Res D} {e : Expr} {es : List Expr} {p pos : Pos} {f : Rho → Res (List D)} (O : OkD X.prog X.w X.K X.mg X.base T j x n den) (hr : Room k X.A) (tk : Takes X W) (hg : Gl X x) (ha : DA X T W (e :: es) f) (hj : j ≤ k := by decide)
    (hdb : (x == ("__debug__" : Str)) = false := by decide) (he : starEach (e :: es) X.env = (false, eval e X.env) :: starEach es X.env := by rfl) (hpl : (backTo pos (starEach es X.env)).any (·.1) = false := by rfl) :
    DE X T W (.Call (.Name x p) (e :: es) [] pos) (callD n den f) := by
  obtain ⟨fd, ps, G, b⟩ := O.ex
  exact (pe_callS (E := WE W) G (hr.mono hj) hg O.mg O.kp b (fun σ => passAt tk σ) ha hdb he hpl).to fun _ _ _ h => call_to h
/-- what is known of an own error class -/
structure ExcN (K : PySem.W.Frag) (mg : Str → Option Value) (x : Str) : Prop where
  e : PySem.W.excIn K (He.ga K x) He.veBase "ValueError.__new__" = true
  k : PySem.W.keepIn K (.ref (He.ga K x)) = true
  b : PySem.W.subIn K (.ref (He.ga K x)) (.type "BaseException") = some true
  t : PySem.W.typeIn K (.ref (He.ga K x)) = some (.type "type")
  g : mg x = some (.ref (He.ga K x))
def sraise (x : Str) : Rho → SR := fun ρ => .ex x ρ
theorem s_raise {x m : Str} {j : Nat} {p p2 pos pos2 : Pos} (N : ExcN X.K X.mg x) (hc : X.calm = true) (tk : Takes X W) (hg : Gl X x) (hdb : (x == ("__debug__" : Str)) = false := by decide) : DS X T W F0 H0 (.Raise (some (.Call (.Name x p) [.Constant (.str m) j p2] [] pos)) none pos2) (sraise x) :=
  (ps_raise hc tk (pmk_own PySem.F.excBase_ValueError N.e N.g N.k (raises_own N.b N.t) hg hdb)).to fun Z σ H ⟨ρ, F, g, h⟩ => h σ F H g (Sub.refl F)
end
end DN
namespace DN
open PySem PySem.Spec PyProof.Rows L2
open LamX (Tabs ExtN)

/-! ### the module's names -/
section
variable {X : Cx} {T : List (Addr × Str)} {W : WX}
theorem e_gint {x : Str} {i : Int} {pos : Pos} (h : ∃ t, X.mg x = some (.int i t)) (hg : Gl X x) (hd : (x == ("__debug__" : Str)) = false := by decide) : DE X T W (.Name x pos) (con (.int i)) := by
  obtain ⟨t, h⟩ := h
  exact e_c (pe_glob (v := .int i) hg h ⟨t, rfl⟩ hd) fun _ => .int i
theorem e_ty {x : Str} {n : String} {pos : Pos} (hm : X.mg x = none) (hv : bootBuiltins x = some (.type n)) (hg : Gl X x) (hn : x ≠ "__name__" := by decide) (hd : (x == ("__debug__" : Str)) = false := by decide) : DE X T W (.Name x pos) (con (.ty n)) :=
  e_c (pe_bltn (v := .ty n) hg hm hv rfl hn hd) fun F => .ty n
end
theorem bt_len : bootBuiltins "len" = some (.builtin "len") := by decide +kernel
theorem bt_max : bootBuiltins "max" = some (.builtin "max") := by decide +kernel
theorem bt_isinstance : bootBuiltins "isinstance" = some (.builtin "isinstance") := by decide +kernel
theorem bt_int : bootBuiltins "int" = some (.type "int") := by decide +kernel
theorem bt_str : bootBuiltins "str" = some (.type "str") := by decide +kernel
theorem bt_bool : bootBuiltins "bool" = some (.type "bool") := by decide +kernel
theorem bt_tuple : bootBuiltins "tuple" = some (.type "tuple") := by decide +kernel
theorem bt_list : bootBuiltins "list" = some (.type "list") := by decide +kernel

/-! ### the end -/
theorem start_arr {K : PySem.W.Frag} {H : Hp} {a : Addr} {ns : List Int} (h : SqL K H a (ns.map V.int)) : ∃ F, Fz F H ∧ Rp K F (.ref a) (.arr ns) := by
  rcases h with (h | ⟨o, h⟩) | h
  · refine ⟨fun b => if b = a then some (.lst (ns.map V.int)) else none, ⟨fun b o e => ?_, fun b ps e => ?_⟩, .arr (.inl (.inl (if_pos rfl)))⟩
    · by_cases hb : b = a
      · rw [if_pos hb] at e; rw [hb, h]; exact e
      · rw [if_neg hb] at e; cases e
    · by_cases hb : b = a
      · rw [if_pos hb] at e; cases e
      · rw [if_neg hb] at e; cases e
  · refine ⟨fun b => if b = a then some (.frz o (.lst (ns.map V.int))) else none, ⟨fun b o e => ?_, fun b ps e => ?_⟩, .arr (.inl (.inr ⟨o, if_pos rfl⟩))⟩
    · by_cases hb : b = a
      · rw [if_pos hb] at e; rw [hb, h]; exact e
      · rw [if_neg hb] at e; cases e
    · by_cases hb : b = a
      · rw [if_pos hb] at e; cases e
      · rw [if_neg hb] at e; cases e
  · exact ⟨fun _ => none, ⟨(fun b o e => nomatch e), (fun b ps e => nomatch e)⟩, .arr (.inr h)⟩
theorem law_sp {K : PySem.W.Frag} {T : List (Addr × Str)} {H : Hp} {a : Addr} {ns : List Int} {den : List D → Res D} (hT : Tabs T H) (h : SqL K H a (ns.map V.int)) (hd : den [.arr ns] = .ok (.bl true)) : spD K T 1 den [.ref a] H (fun v _ => v = .bl true) fun _ _ _ => False := by
  obtain ⟨F, z, r⟩ := start_arr h
  refine ⟨F, [.arr ns], z, hT, .cons r .nil, rfl, ?_⟩
  rw [hd]
  intro v F' H' n rv
  cases rv
  rfl
theorem cx_false {P : Program} {w : World} {l : List Env} {H : Hp} {s : Shared} {e : Value} {s' : Shared} (h : L2.CX P w l H s (fun _ _ _ => False) e s') : False := by
  obtain ⟨_, _, _, _, _, _, _, _, _, _, _, _, z⟩ := h
  exact z.elim
end DN
namespace HT
open PySem PyProof.Rows
section
variable {prog : Program} {w : World} {A : Around} {E : Value → Shared → Prop} {s : Shared}
end
end HT
namespace DN
open PySem PySem.Spec PyProof.Rows L2
open LamX (Tabs ExtN)
section
variable {X : Cx}
end
theorem _root_.L2.PE.or {X : Cx} {e : Expr} {t u : TE} (h : PE X e t) (h2 : PE X e u) : PE X e (fun σ H Q => t σ H Q ∨ u σ H Q) := ⟨fun pins s σ H Q I q => q.elim (h.run pins s σ H Q I) (h2.run pins s σ H Q I)⟩
section
variable {X : Cx} {T : List (Addr × Str)} {W : WX}
end
end DN
namespace DN
open PySem PySem.Spec PyProof.Rows L2

/-! ### evaluating functions of data -/
def app2 (G : D → D → Option D) : Res D → Res D → Res D
  | .ok a, .ok b => ofO (G a b)
  | .ok _, .ex n => .ex n
  | .ok _, .bad => .bad
  | .ex n, _ => .ex n
  | .bad, _ => .bad
def app1 (G : D → Option D) (r : Res D) : Res D := r.bind fun a => ofO (G a)
def appL (G : List D → Option D) (r : Res (List D)) : Res D := r.bind fun a => ofO (G a)
def consR : Res D → Res (List D) → Res (List D)
  | .ok a, .ok b => .ok (a :: b)
  | .ok _, .ex n => .ex n
  | .ok _, .bad => .bad
  | .ex n, _ => .ex n
  | .bad, _ => .bad
def callR (n : Nat) (den : List D → Res D) (r : Res (List D)) : Res D := r.bind fun ds => if ds.length = n then den ds else .bad
def tstR (r : Res D) : Res Bool := r.bind ans
def seqR (r : SR) (t : Rho → SR) : SR := match r with
  | .nx ρ => t ρ
  | r => r
def retR (r : Res D) (ρ : Rho) : SR := bindS r ρ .rt
def asgR (r : Res D) (ρ : Rho) (g : Tg) : SR := bindS r ρ fun d => match g ρ d with
  | some ρ' => .nx ρ'
  | none => .bad
def ifR (r : Res Bool) (s t : Rho → SR) (ρ : Rho) : SR := bindS r ρ fun b => if b = true then s ρ else t ρ
def finR : SR → Res D
  | .nx _ => .ok .non
  | .rt d => .ok d
  | .ex m _ => .ex m
  | _ => .bad
def andR (r : Res Bool) (g : Rho → Res Bool) (ρ : Rho) : Res Bool := r.bind fun b => if b = true then g ρ else .ok false
def orR (r : Res Bool) (g : Rho → Res Bool) (ρ : Rho) : Res Bool := r.bind fun b => if b = true then .ok true else g ρ
def notR (r : Res Bool) : Res Bool := r.bind fun b => .ok (!b)
def andER (r : Res D) (g : Rho → Res D) (ρ : Rho) : Res D := r.bind fun d => (ans d).bind fun b => if b = true then g ρ else .ok (.bl false)
def orER (r : Res D) (g : Rho → Res D) (ρ : Rho) : Res D := r.bind fun d => (ans d).bind fun b => if b = true then .ok (.bl true) else g ρ
def notER (r : Res D) : Res D := r.bind fun d => (ans d).bind fun b => .ok (.bl (!b))
def mkTR (r : Res (List D)) : Res D := r.bind fun ds => if ds.length ≤ sizeLine then .ok (.tup ds) else .bad
def mkLR (r : Res (List D)) : Res D := r.bind fun ds => if ds.length ≤ sizeLine then .ok (.lst ds) else .bad
def slcR (r : Res D) (lo hi : Res (Option Int)) : Res D := r.bind fun d => lo.bind fun lo => hi.bind fun hi => ofO (slD d lo hi)
def psmR (r : Res D) : Res (Option Int) := r.bind intO
def forR (r : Res (List D)) (g : Tg) (s : Rho → SR) (ρ : Rho) : SR := bindS r ρ fun ds => loopD g s ds ρ
def chnR (G G' : D → D → Option D) (a b c : Res D) : Res D := a.bind fun d => b.bind fun e => (ofO (G d e)).bind fun z => (ans z).bind fun k => if k = true then c.bind fun c => ofO (G' e c) else .ok (.bl false)
theorem runB_eq {n : Nat} {g : Rho → SR} {ds : List D} {ρ : Rho} (h : startR n ds = ρ) : runB n g ds = finR (g ρ) := by
  subst h
  unfold runB finR
  cases g (startR n ds) <;> rfl
section
variable {ρ : Rho}
theorem bin_def {G f g} : bop G f g ρ = app2 G (f ρ) (g ρ) := by
  unfold bop app2
  cases f ρ <;> cases g ρ <;> rfl
theorem una_def {G f} : una G f ρ = app1 G (f ρ) := rfl
theorem cal_def {G f} : cal G f ρ = appL G (f ρ) := rfl
theorem acons_def {f g} : acons f g ρ = consR (f ρ) (g ρ) := by
  unfold acons consR
  cases f ρ <;> cases g ρ <;> rfl
theorem anil_def : anil ρ = .ok [] := rfl
theorem con_def {d} : con d ρ = .ok d := rfl
theorem callD_def {n den f} : callD n den f ρ = callR n den (f ρ) := rfl
theorem tst_def {f} : tst f ρ = tstR (f ρ) := rfl
theorem sseq_def {s t} : sseq s t ρ = seqR (s ρ) t := by
  unfold sseq seqR
  cases s ρ <;> rfl
theorem sret_def {f} : sret f ρ = retR (f ρ) ρ := rfl
theorem sasg_def {f g} : sasg f g ρ = asgR (f ρ) ρ g := rfl
theorem sif_def {c s t} : sif c s t ρ = ifR (c ρ) s t ρ := rfl
theorem sskip_def : sskip ρ = .nx ρ := rfl
theorem sraise_def {x} : sraise x ρ = .ex x ρ := rfl
theorem andQ_def {f g} : andQ f g ρ = andR (f ρ) g ρ := rfl
theorem orQ_def {f g} : orQ f g ρ = orR (f ρ) g ρ := rfl
theorem notQ_def {f} : notQ f ρ = notR (f ρ) := rfl
theorem andE_def {f g} : andE f g ρ = andER (f ρ) g ρ := rfl
theorem orE_def {f g} : orE f g ρ = orER (f ρ) g ρ := rfl
theorem notE_def {f} : notE f ρ = notER (f ρ) := rfl
theorem mkT_def {f} : mkT f ρ = mkTR (f ρ) := rfl
theorem mkL_def {f} : mkL f ρ = mkLR (f ρ) := rfl
theorem slc_def {f g h} : slc f g h ρ = slcR (f ρ) (g ρ) (h ρ) := rfl
theorem psm_def {f} : psm f ρ = psmR (f ρ) := rfl
theorem pno_def : pno ρ = .ok none := rfl
theorem sfor_def {f g s} : sfor f g s ρ = forR (f ρ) g s ρ := rfl
theorem chn_def {G G' f g h} : chn G G' f g h ρ = chnR G G' (f ρ) (g ρ) (h ρ) := rfl
theorem var_zero {d r} : var 0 (.z d :: r) = .ok d := rfl
theorem var_succ {n x r} : var (n + 1) (x :: r) = var n r := rfl
theorem app2_ok {G a b} : app2 G (.ok a) (.ok b) = ofO (G a b) := rfl
theorem app1_ok {G a} : app1 G (.ok a) = ofO (G a) := rfl
theorem appL_ok {G a} : appL G (.ok a) = ofO (G a) := rfl
theorem consR_ok {a b} : consR (.ok a) (.ok b) = .ok (a :: b) := rfl
theorem ofO_some {α} {a : α} : ofO (some a) = .ok a := rfl
theorem call0 {den} : callR 0 den (.ok []) = den [] := rfl
theorem call1 {den a} : callR 1 den (.ok [a]) = den [a] := rfl
theorem call2 {den a b} : callR 2 den (.ok [a, b]) = den [a, b] := rfl
theorem call3 {den a b c} : callR 3 den (.ok [a, b, c]) = den [a, b, c] := rfl
theorem call4 {den a b c d} : callR 4 den (.ok [a, b, c, d]) = den [a, b, c, d] := rfl
theorem call5 {den a b c d e} : callR 5 den (.ok [a, b, c, d, e]) = den [a, b, c, d, e] := rfl
theorem tstR_ok {b} : tstR (.ok (.bl b)) = .ok b := rfl
theorem seqR_nx {t} : seqR (.nx ρ) t = t ρ := rfl
theorem seqR_rt {d t} : seqR (.rt d) t = .rt d := rfl
theorem seqR_ex {n t} : seqR (.ex n ρ) t = .ex n ρ := rfl
theorem retR_ok {d} : retR (.ok d) ρ = .rt d := rfl
theorem retR_ex {n} : retR (.ex n) ρ = .ex n ρ := rfl
theorem asgR_n {d i} : asgR (.ok d) ρ (gn i) = .nx (ρ.set i (.z d)) := rfl
theorem asgR_ex {n g} : asgR (.ex n) ρ g = .ex n ρ := rfl
theorem asgR_2 {a b i j} : asgR (.ok (.tup [a, b])) ρ (gt 2 (gsc (gn i) (gsc (gn j) gsn))) = .nx ((ρ.set i (.z a)).set j (.z b)) := rfl
theorem asgR_2L {a b i j} : asgR (.ok (.lst [a, b])) ρ (gt 2 (gsc (gn i) (gsc (gn j) gsn))) = .nx ((ρ.set i (.z a)).set j (.z b)) := rfl
theorem asgR_3 {a b c i j k} : asgR (.ok (.tup [a, b, c])) ρ (gt 3 (gsc (gn i) (gsc (gn j) (gsc (gn k) gsn)))) = .nx (((ρ.set i (.z a)).set j (.z b)).set k (.z c)) := rfl
theorem ifR_t {s t} : ifR (.ok true) s t ρ = s ρ := rfl
theorem ifR_f {s t} : ifR (.ok false) s t ρ = t ρ := rfl
theorem finR_rt {d} : finR (.rt d) = .ok d := rfl
theorem finR_nx : finR (.nx ρ) = .ok .non := rfl
theorem finR_ex {n} : finR (.ex n ρ) = .ex n := rfl
theorem andR_t {g} : andR (.ok true) g ρ = g ρ := rfl
theorem andR_f {g} : andR (.ok false) g ρ = .ok false := rfl
theorem orR_t {g} : orR (.ok true) g ρ = .ok true := rfl
theorem orR_f {g} : orR (.ok false) g ρ = g ρ := rfl
theorem notR_ok {b} : notR (.ok b) = .ok (!b) := rfl
theorem andER_t {g} : andER (.ok (.bl true)) g ρ = g ρ := rfl
theorem andER_f {g} : andER (.ok (.bl false)) g ρ = .ok (.bl false) := rfl
theorem orER_t {g} : orER (.ok (.bl true)) g ρ = .ok (.bl true) := rfl
theorem orER_f {g} : orER (.ok (.bl false)) g ρ = g ρ := rfl
theorem notER_ok {b} : notER (.ok (.bl b)) = .ok (.bl (!b)) := rfl
theorem psmR_ok {i} : psmR (.ok (.int i)) = .ok (some i) := rfl
theorem slcR_ok {d lo hi} : slcR (.ok d) (.ok lo) (.ok hi) = ofO (slD d lo hi) := rfl
theorem loop_nil {g s} : loopD g s [] ρ = .nx ρ := rfl
theorem loop_cons {g s d ds ρ1 ρ'} (h : g ρ d = some ρ1) (h2 : s ρ1 = .nx ρ') : loopD g s (d :: ds) ρ = loopD g s ds ρ' := by
  show (match g ρ d with | none => SR.bad | some ρ1 => match s ρ1 with | .nx ρ' => loopD g s ds ρ' | .ct ρ' => loopD g s ds ρ' | .bk ρ' => .nx ρ' | r => r) = _
  rw [h]
  show (match s ρ1 with | .nx ρ' => loopD g s ds ρ' | .ct ρ' => loopD g s ds ρ' | .bk ρ' => .nx ρ' | r => r) = _
  rw [h2]
theorem forR_ok {ds g s} : forR (.ok ds) g s ρ = loopD g s ds ρ := rfl
theorem mkTR_ok {ds : List D} (h : ds.length ≤ 1000000) : mkTR (.ok ds) = .ok (.tup ds) := by
  show (if ds.length ≤ sizeLine then Res.ok (D.tup ds) else .bad) = _
  rw [if_pos (by rw [sizeLine_eq]; omega)]
theorem mkLR_ok {ds : List D} (h : ds.length ≤ 1000000) : mkLR (.ok ds) = .ok (.lst ds) := by
  show (if ds.length ≤ sizeLine then Res.ok (D.lst ds) else .bad) = _
  rw [if_pos (by rw [sizeLine_eq]; omega)]
theorem chn_le {i j k} : chnR leD leD (.ok (.int i)) (.ok (.int j)) (.ok (.int k)) = .ok (.bl (decide (i ≤ j) && decide (j ≤ k))) := by
  show (if decide (i ≤ j) = true then Res.ok (D.bl (decide (j ≤ k))) else .ok (.bl false)) = _
  cases decide (i ≤ j) <;> rfl
theorem chn_lt {i j k} : chnR leD ltD (.ok (.int i)) (.ok (.int j)) (.ok (.int k)) = .ok (.bl (decide (i ≤ j) && decide (j < k))) := by
  show (if decide (i ≤ j) = true then Res.ok (D.bl (decide (j < k))) else .ok (.bl false)) = _
  cases decide (i ≤ j) <;> rfl
/-! the operators on what they are for -/
theorem add_ii {i j} : addD (.int i) (.int j) = some (.int (i + j)) := rfl
theorem sub_ii {i j} : subD (.int i) (.int j) = some (.int (i - j)) := rfl
theorem neg_i {i} : negD (.int i) = some (.int (-i)) := rfl
theorem lt_ii {i j} : ltD (.int i) (.int j) = some (.bl (decide (i < j))) := rfl
theorem le_ii {i j} : leD (.int i) (.int j) = some (.bl (decide (i ≤ j))) := rfl
theorem gt_ii {i j} : gtD (.int i) (.int j) = some (.bl (decide (j < i))) := rfl
theorem ge_ii {i j} : geD (.int i) (.int j) = some (.bl (decide (j ≤ i))) := rfl
theorem eq_ii {i j} : eqD (.int i) (.int j) = some (.bl (i == j)) := by simp [eqD, eqOk, flatD, eqd]
theorem ne_ii {i j} : neD (.int i) (.int j) = some (.bl (!(i == j))) := by simp [neD, eqOk, flatD, eqd]
theorem eq_ss {i j} : eqD (.str i) (.str j) = some (.bl (i == j)) := by simp [eqD, eqOk, flatD, eqd]
theorem ne_ss {i j} : neD (.str i) (.str j) = some (.bl (!(i == j))) := by simp [neD, eqOk, flatD, eqd]
theorem eq_bb {i j} : eqD (.bl i) (.bl j) = some (.bl (i == j)) := by simp [eqD, eqOk, flatD, eqd]
theorem ne_bb {i j} : neD (.bl i) (.bl j) = some (.bl (!(i == j))) := by simp [neD, eqOk, flatD, eqd]
theorem mul_l {i j : Int} (h : -(2 ^ 64) < i ∧ i < 2 ^ 64) : mulD (.int i) (.int j) = some (.int (i * j)) := by
  show (if CMulD i j then some (D.int (i * j)) else none) = _
  rw [if_pos (.inl (.inl h))]
theorem mul_r {i j : Int} (h : -(2 ^ 64) < j ∧ j < 2 ^ 64) : mulD (.int i) (.int j) = some (.int (i * j)) := by
  show (if CMulD i j then some (D.int (i * j)) else none) = _
  rw [if_pos (.inl (.inr h))]
theorem log2_lt {n k : Nat} (h : n < 2 ^ k) (hk : 0 < k) : n.log2 < k := by
  by_cases h0 : n = 0
  · subst h0; simpa using hk
  · exact (Nat.log2_lt h0).mpr h
theorem mul_w {i j : Int} (h1 : i.natAbs < 2 ^ 100000) (h2 : j.natAbs < 2 ^ 100000) : mulD (.int i) (.int j) = some (.int (i * j)) := by
  show (if CMulD i j then some (D.int (i * j)) else none) = _
  have a := log2_lt h1 (by decide)
  have b := log2_lt h2 (by decide)
  rw [if_pos (.inr (show i.natAbs.log2 + j.natAbs.log2 < 1000000 by omega))]
theorem div_s {i j : Int} (h : 0 < j ∧ j < 2 ^ 64) : divD (.int i) (.int j) = some (.int (i / j)) := by
  show (if CDivW i j then some (D.int (i / j)) else none) = _
  have a : j.natAbs.log2 < 64 := log2_lt (by omega) (by decide)
  rw [if_pos ⟨h.1, by omega⟩]
theorem mod_p {i j : Int} (h : 0 < j) : modD (.int i) (.int j) = some (.int (i % j)) := by
  show (if 0 < j then some (D.int (i % j)) else none) = _
  rw [if_pos h]
theorem ix_t {xs : List D} {i : Int} (h : 0 ≤ i ∧ i < xs.length) : ixD (.tup xs) (.int i) = some (xs.getD i.toNat .non) := by
  show atI xs i = _
  unfold atI ixN
  rw [if_pos h.1, if_pos h.2]
  show xs[i.toNat]? = _
  rw [List.getElem?_eq_getElem (by omega), List.getD_eq_getElem?_getD, List.getElem?_eq_getElem (by omega)]
  rfl
theorem ix_l {xs : List D} {i : Int} (h : 0 ≤ i ∧ i < xs.length) : ixD (.lst xs) (.int i) = some (xs.getD i.toNat .non) := by
  show atI xs i = _
  unfold atI ixN
  rw [if_pos h.1, if_pos h.2]
  show xs[i.toNat]? = _
  rw [List.getElem?_eq_getElem (by omega), List.getD_eq_getElem?_getD, List.getElem?_eq_getElem (by omega)]
  rfl
theorem ix_tm {xs : List D} {i m : Int} (h : 0 < m ∧ m ≤ xs.length) : ixD (.tup xs) (.int (i % m)) = some (xs.getD (i % m).toNat .non) := ix_t ⟨Int.emod_nonneg _ (by omega), Int.lt_of_lt_of_le (Int.emod_lt_of_pos _ h.1) h.2⟩
theorem ix_lm {xs : List D} {i m : Int} (h : 0 < m ∧ m ≤ xs.length) : ixD (.lst xs) (.int (i % m)) = some (xs.getD (i % m).toNat .non) := ix_l ⟨Int.emod_nonneg _ (by omega), Int.lt_of_lt_of_le (Int.emod_lt_of_pos _ h.1) h.2⟩
theorem ix_t0 {a : D} {r : List D} : ixD (.tup (a :: r)) (.int 0) = some a := by
  show atI (a :: r) 0 = _
  unfold atI ixN
  rw [if_pos (by decide), if_pos (by simp only [List.length_cons]; omega)]
  rfl
theorem ix_t1 {a b : D} {r : List D} : ixD (.tup (a :: b :: r)) (.int 1) = some b := by
  show atI (a :: b :: r) 1 = _
  unfold atI ixN
  rw [if_pos (by decide), if_pos (by simp only [List.length_cons]; omega)]
  rfl
theorem ix_t2 {a b c : D} {r : List D} : ixD (.tup (a :: b :: c :: r)) (.int 2) = some c := by
  show atI (a :: b :: c :: r) 2 = _
  unfold atI ixN
  rw [if_pos (by decide), if_pos (by simp only [List.length_cons]; omega)]
  rfl
theorem ix_t3 {a b c d : D} {r : List D} : ixD (.tup (a :: b :: c :: d :: r)) (.int 3) = some d := by
  show atI (a :: b :: c :: d :: r) 3 = _
  unfold atI ixN
  rw [if_pos (by decide), if_pos (by simp only [List.length_cons]; omega)]
  rfl
theorem ix_t4 {a b c d e : D} {r : List D} : ixD (.tup (a :: b :: c :: d :: e :: r)) (.int 4) = some e := by
  show atI (a :: b :: c :: d :: e :: r) 4 = _
  unfold atI ixN
  rw [if_pos (by decide), if_pos (by simp only [List.length_cons]; omega)]
  rfl
theorem ix_t5 {a b c d e f : D} {r : List D} : ixD (.tup (a :: b :: c :: d :: e :: f :: r)) (.int 5) = some f := by
  show atI (a :: b :: c :: d :: e :: f :: r) 5 = _
  unfold atI ixN
  rw [if_pos (by decide), if_pos (by simp only [List.length_cons]; omega)]
  rfl
theorem ix_t6 {a b c d e f g : D} {r : List D} : ixD (.tup (a :: b :: c :: d :: e :: f :: g :: r)) (.int 6) = some g := by
  show atI (a :: b :: c :: d :: e :: f :: g :: r) 6 = _
  unfold atI ixN
  rw [if_pos (by decide), if_pos (by simp only [List.length_cons]; omega)]
  rfl
theorem ix_t7 {a b c d e f g h : D} {r : List D} : ixD (.tup (a :: b :: c :: d :: e :: f :: g :: h :: r)) (.int 7) = some h := by
  show atI (a :: b :: c :: d :: e :: f :: g :: h :: r) 7 = _
  unfold atI ixN
  rw [if_pos (by decide), if_pos (by simp only [List.length_cons]; omega)]
  rfl
theorem ix_l0 {a : D} {r : List D} : ixD (.lst (a :: r)) (.int 0) = some a := by
  show atI (a :: r) 0 = _
  unfold atI ixN
  rw [if_pos (by decide), if_pos (by simp only [List.length_cons]; omega)]
  rfl
theorem ix_l1 {a b : D} {r : List D} : ixD (.lst (a :: b :: r)) (.int 1) = some b := by
  show atI (a :: b :: r) 1 = _
  unfold atI ixN
  rw [if_pos (by decide), if_pos (by simp only [List.length_cons]; omega)]
  rfl
theorem ix_l2 {a b c : D} {r : List D} : ixD (.lst (a :: b :: c :: r)) (.int 2) = some c := by
  show atI (a :: b :: c :: r) 2 = _
  unfold atI ixN
  rw [if_pos (by decide), if_pos (by simp only [List.length_cons]; omega)]
  rfl
theorem ix_l3 {a b c d : D} {r : List D} : ixD (.lst (a :: b :: c :: d :: r)) (.int 3) = some d := by
  show atI (a :: b :: c :: d :: r) 3 = _
  unfold atI ixN
  rw [if_pos (by decide), if_pos (by simp only [List.length_cons]; omega)]
  rfl
theorem ix_l4 {a b c d e : D} {r : List D} : ixD (.lst (a :: b :: c :: d :: e :: r)) (.int 4) = some e := by
  show atI (a :: b :: c :: d :: e :: r) 4 = _
  unfold atI ixN
  rw [if_pos (by decide), if_pos (by simp only [List.length_cons]; omega)]
  rfl
theorem ix_l5 {a b c d e f : D} {r : List D} : ixD (.lst (a :: b :: c :: d :: e :: f :: r)) (.int 5) = some f := by
  show atI (a :: b :: c :: d :: e :: f :: r) 5 = _
  unfold atI ixN
  rw [if_pos (by decide), if_pos (by simp only [List.length_cons]; omega)]
  rfl
theorem ix_l6 {a b c d e f g : D} {r : List D} : ixD (.lst (a :: b :: c :: d :: e :: f :: g :: r)) (.int 6) = some g := by
  show atI (a :: b :: c :: d :: e :: f :: g :: r) 6 = _
  unfold atI ixN
  rw [if_pos (by decide), if_pos (by simp only [List.length_cons]; omega)]
  rfl
theorem ix_l7 {a b c d e f g h : D} {r : List D} : ixD (.lst (a :: b :: c :: d :: e :: f :: g :: h :: r)) (.int 7) = some h := by
  show atI (a :: b :: c :: d :: e :: f :: g :: h :: r) 7 = _
  unfold atI ixN
  rw [if_pos (by decide), if_pos (by simp only [List.length_cons]; omega)]
  rfl
theorem len_t {xs : List D} : lenD [.tup xs] = some (.int xs.length) := rfl
theorem len_l {xs : List D} : lenD [.lst xs] = some (.int xs.length) := rfl
theorem len_a {xs : List Int} : lenD [.arr xs] = some (.int xs.length) := rfl
theorem abs_i {i : Int} : absD [.int i] = some (.int (if i < 0 then -i else i)) := rfl
theorem max_ii {i j : Int} : maxD [.int i, .int j] = some (.int (if j > i then j else i)) := rfl
theorem min_ii {i j : Int} : minD [.int i, .int j] = some (.int (if j < i then j else i)) := rfl
theorem int_i {i : Int} : intD [.int i] = some (.int i) := rfl
theorem int_b {b : Bool} : intD [.bl b] = some (.int (if b then 1 else 0)) := rfl
theorem int_t : intD [.bl true] = some (.int 1) := rfl
theorem int_f : intD [.bl false] = some (.int 0) := rfl
theorem kit_ib : kitB "int" "bool" = some false := by decide +kernel
theorem kit_tt : kitB "tuple" "tuple" = some true := by decide +kernel
theorem isi_i {i n b} (h : kitB "int" n = some b) : isiD [.int i, .ty n] = some (.bl b) := by simp [isiD, tyD, h]
theorem isi_t {i n b} (h : kitB "tuple" n = some b) : isiD [.tup i, .ty n] = some (.bl b) := by simp [isiD, tyD, h]
end
end DN
namespace DN
open PySem PySem.Spec PyProof.Rows L2
instance : Decidable (CPow i j) := by unfold CPow; infer_instance
end DN
namespace DN
open PySem PySem.Spec PyProof.Rows L2
open LamX (Tabs ExtN)

/-! ### methods of texts -/
section
variable {X : Cx} {T : List (Addr × Str)} {W : WX}
end
/-! evaluating -/
end DN
namespace DN
open PySem PySem.Spec PyProof.Rows L2
open LamX (Tabs ExtN CodeO GivesTo tLam LamS TabB lamCx lamEnv)

/-! ### list.count, flat items -/
section
variable {X : Cx}
def rCountF (K : PySem.W.Frag) : V → List V → Hp → VK → Prop := fun x xs H Q => ∃ (a : Addr) (ys : List V) (y : V), x = V.ref a ∧ xs = [y] ∧ SqL K H a ys ∧ flatV y = true ∧ ys.all flatV = true ∧ Q (.int ((ys.countP fun z => eqV z y : Nat) : Int)) H
theorem countU {y : V} : ∀ {ys : List V} {us : List Value}, Vals ys us → ys.all flatV = true → us.countP (eqU y) = ys.countP fun z => eqV z y
  | _, _, .nil, _ => rfl
  | z :: ys, u :: us, .cons r t, f => by
    rw [List.all_cons, Bool.and_eq_true] at f
    rw [List.countP_cons, List.countP_cons, countU t f.2, eqU_of r f.1]
theorem mt_countF : MtR X "list.count" (rCountF X.K) := by
  intro pins s σ H x xs v us Q I rx rxs h
  obtain ⟨a, ys, y, rfl, rfl, hs, fy, fys, q⟩ := h
  cases rx
  obtain ⟨u, rfl, ru⟩ := rxs.one
  obtain ⟨its, rv, ⟨⟨cls, dd, data, sl⟩, n, ho, hc, hdn, hd⟩, hlen⟩ := I.list hs
  simp only at hc hd
  subst hc hd
  refine call_meets PySem.F.slot_list_count ⟨_, ho, rfl⟩ PySem.F.entry_list_count (PySem.F.args_list_count_2 _ _)
    (SeqAt.list_countAt a its.toArray n dd sl u (eqU y)) ⟨ho, fun u' hu' => mem_eqAt ru fy rv fys u' (by simpa using hu'), ?_⟩
  have ec : its.toArray.toList.countP (eqU y) = ys.countP fun z => eqV z y := countU rv fys
  rw [ec]
  exact ⟨.int _, H, I.kept fun _ _ z => z, ⟨_, rfl⟩, q⟩
end

/-! ### told: what an own error is told as -/
def kindIx (n : Str) : Option Int :=
  if n = "TooGreat" then some 0 else if n = "NoText" then some 1 else if n = "NoDeed" then some 2 else if n = "NoKey" then some 3 else if n = "NoRoom" then some 4 else none
def toldR : Res D → Res D
  | .ok d => .ok (.tup [.str "told", d])
  | .ex n => (match kindIx n with
    | some k => .ok (.tup [.str "refused", .int k])
    | none => .bad)
  | .bad => .bad
def toldD (f : Rho → Res D) : Rho → Res D := fun ρ => toldR (f ρ)
def five : List Str := ["TooGreat", "NoText", "NoDeed", "NoKey", "NoRoom"]
/-- what is known of the five classes -/
structure ExK (K : PySem.W.Frag) (n : Str) : Prop where
  c : ExcC K (He.ga K n)
  m : PySem.W.exmOne K (.ref (He.ga K n)) (.ref (He.ga K "PileError")) = some true
  v : PySem.W.kitOne K (.ref (He.ga K n)) (.type "ValueError") = some true
  k : ∀ m ∈ five, PySem.W.kitOne K (.ref (He.ga K n)) (.ref (He.ga K m)) = some (decide (n = m))
def exKB (K : PySem.W.Frag) (n : Str) : Bool :=
  He.eqO (PySem.W.findIn K (.ref (He.ga K n)) "__getattribute__") (some (some (.builtin "BaseException.__getattribute__"))) &&
  (He.eqO (PySem.W.findIn K (.ref (He.ga K n)) "__getattr__") (some none) &&
  (decide (PySem.W.subIn K (.ref (He.ga K n)) (.type "BaseException") = some true) &&
  (PySem.W.hasDictIn K (He.ga K n) &&
  (He.eqO (PySem.W.findIn K (.ref (He.ga K n)) "__class__") (some (some (.builtin "object.__class__"))) &&
  (He.eqO (PySem.W.specialIn K (.builtin "object.__class__") "__get__") (some (some (.builtin "getset_descriptor.__get__"))) &&
  (decide (PySem.W.takesIn K (.builtin "object.__class__") = some true) &&
  (decide (PySem.W.mroIn K (He.ga K n) (.type "object") = some true) &&
  (decide (PySem.W.exmOne K (.ref (He.ga K n)) (.ref (He.ga K "PileError")) = some true) &&
  (decide (PySem.W.kitOne K (.ref (He.ga K n)) (.type "ValueError") = some true) &&
  five.all fun m => decide (PySem.W.kitOne K (.ref (He.ga K n)) (.ref (He.ga K m)) = some (decide (n = m))))))))))))
def toldB (K : PySem.W.Frag) : Bool := five.all fun n => exKB K n
theorem exKB_ok {K : PySem.W.Frag} {n : Str} (h : exKB K n = true) : ExK K n := by
  unfold exKB at h
  simp only [Bool.and_eq_true] at h
  obtain ⟨h1, h2, h3, h4, h5, h6, h7, h8, h9, h10, h11⟩ := h
  exact ⟨⟨He.eqO_ok h1, He.eqO_ok h2, of_decide_eq_true h3, h4, He.eqO_ok h5, He.eqO_ok h6, of_decide_eq_true h7, of_decide_eq_true h8⟩, of_decide_eq_true h9, of_decide_eq_true h10, fun m hm => of_decide_eq_true (List.all_eq_true.mp h11 m hm)⟩
theorem toldB_ok {K : PySem.W.Frag} (h : toldB K = true) : ∀ n ∈ five, ExK K n := fun n hn => exKB_ok (List.all_eq_true.mp h n hn)
theorem kindIx_mem {n : Str} {k : Int} (h : kindIx n = some k) : n ∈ five := by
  unfold kindIx at h
  unfold five
  split at h
  · rename_i e; subst e; simp
  · split at h
    · rename_i e; subst e; simp
    · split at h
      · rename_i e; subst e; simp
      · split at h
        · rename_i e; subst e; simp
        · split at h
          · rename_i e; subst e; simp
          · cases h
/-- what told's module must have -/
structure ToldC (K : PySem.W.Frag) (mg : Str → Option Value) : Prop where
  ex : ∀ n ∈ five, ExK K n
  g : ∀ n ∈ five, mg n = some (.ref (He.ga K n))
  p : mg "PileError" = some (.ref (He.ga K "PileError"))
  i : mg "isinstance" = none
  v : mg "ValueError" = none
/-- told's names -/
structure ToldS (sg : Scope) : Prop where
  l : ∀ n ∈ (["deed", "found", "e", "kinds"] : List Str), sg.names.lookup n = some .local
  g : ∀ n ∈ five, sg.names.lookup n = some .globalImplicit
  gp : sg.names.lookup ("PileError" : Str) = some .globalImplicit
  gi : sg.names.lookup ("isinstance" : Str) = some .globalImplicit
  gv : sg.names.lookup ("ValueError" : Str) = some .globalImplicit
theorem bt_ValueError : bootBuiltins "ValueError" = some (.type "ValueError") := by decide +kernel
def TTd (K : PySem.W.Frag) (T : List (Addr × Str)) : (XK → Hp → VK → Prop) → Hp → VK → Prop := fun tl H Q =>
  ∃ F r, Fz F H ∧ (∀ E H' F' Q', Nx T F H F' H' → aft (Rp K) K T (WofE E) [] F' H' Q' r → tl E H' Q') ∧ aft (Rp K) K T (fun _ _ _ _ => False) [] F H Q (toldR r)
theorem takes_len {X : Cx} {W : WX} (t : Takes X W) : Takes X (fun c d σ H => σ.length = X.N.length → W c d σ H) := fun u s' ⟨a, B, sI, pins, σ, H, cls, d, e, I, nb, up, sky, na, os, ag, w⟩ =>
  t u s' ⟨a, B, sI, pins, σ, H, cls, d, e, I, nb, up, sky, na, os, ag, w I.len⟩

section
variable {X : Cx} {T : List (Addr × Str)}
/-- the suite's reading, of an error of the class at D -/
def isR (K : PySem.W.Frag) (D a : Addr) (n : Str) : TE := tCB (rIsE K D a) (tCons (tVar 2) (tCons (tC (.ref (He.ga K n))) tNil))
def isV (K : PySem.W.Frag) (D a : Addr) : TE := tCB (rIsE K D a) (tCons (tVar 2) (tCons (tC (.ty "ValueError")) tNil))
def RS (K : PySem.W.Frag) (a D : Addr) : TS :=
  tSeq (tAsg (tLst (tCons (isR K D a "TooGreat") (tCons (isR K D a "NoText") (tCons (isR K D a "NoDeed") (tCons (isR K D a "NoKey") tNil))))) (gName 3))
  (tSeq (tDrop (tBM K "list" rAppend (tVar 3) (tCons (isR K D a "NoRoom") tNil)))
  (tSeq (tAsg (tTup (tCons (tC (.str "refused")) (tCons (tUn (rU fun i => .int (-i)) (tC (.int 1))) tNil))) (gName 1))
  (tIfS (tAnd (tB (isV K D a)) (tB (tEqI (tBM K "list" (rCountF K) (tVar 3) (tCons (tC (.bl true)) tNil)) (tC (.int 1))))) (tAsg (tTup (tCons (tC (.str "refused")) (tCons (tBM K "list" (rIndex K) (tVar 3) (tCons (tC (.bl true)) tNil)) tNil))) (gName 1)) tNext)))
theorem isR_run {K : PySem.W.Frag} {n m : Str} {a : Addr} {σ : L2.St} {H : Hp} {Q : VK} (E : ExK K n) (hm : m ∈ five) (h2 : σ[2]? = some (some (.ref a))) (hq : Q (.bl (decide (n = m))) H) : isR K (He.ga K n) a m σ H Q :=
  ⟨.ref a, h2, .ref (He.ga K m), .ref (He.ga K m), _, rfl, fun u r => r, E.k m hm, hq⟩
theorem isV_run {K : PySem.W.Frag} {n : Str} {a : Addr} {σ : L2.St} {H : Hp} {Q : VK} (E : ExK K n) (h2 : σ[2]? = some (some (.ref a))) (hq : Q (.bl true) H) : isV K (He.ga K n) a σ H Q :=
  ⟨.ref a, h2, .ty "ValueError", .type "ValueError", _, rfl, fun u r => r, E.v, hq⟩
theorem suite_run {K : PySem.W.Frag} {n : Str} {a : Addr} {σ : L2.St} {F H : Hp} {D : Ends} {b0 b1 b2 b3 b4 : Bool} {j : Nat} (E : ExK K n) (z : Fz F H) (hl : σ.length = 4) (h2 : σ[2]? = some (some (.ref a)))
    (e0 : decide (n = "TooGreat") = b0) (e1 : decide (n = "NoText") = b1) (e2 : decide (n = "NoDeed") = b2) (e3 : decide (n = "NoKey") = b3) (e4 : decide (n = "NoRoom") = b4)
    (hc : ([V.bl b0, .bl b1, .bl b2, .bl b3, .bl b4].countP fun z => eqV z (.bl true)) = 1) (hj : [V.bl b0, .bl b1, .bl b2, .bl b3, .bl b4][j]? = some (.bl true)) (hno : ∀ (m : Nat) (z' : V), m < j → [V.bl b0, .bl b1, .bl b2, .bl b3, .bl b4][m]? = some z' → eqV z' (.bl true) = false)
    (hk : ∀ σ' p F' H', Nx T F H F' H' → F' p = some (.tup [.str "refused", .int (j : Nat)]) → σ'.length = 4 → σ'[1]? = some (some (.ref p)) → D.nx σ' H') : RS K a (He.ga K n) D σ H := by
  have sl := sizeLine_eq
  refine isR_run E (by unfold five; simp) h2 (isR_run E (by unfold five; simp) h2 (isR_run E (by unfold five; simp) h2 (isR_run E (by unfold five; simp) h2 ⟨by simp; omega, fun p1 hp1 => ?_⟩)))
  rw [e0, e1, e2, e3]
  have g3 : (σ.set 3 (some (V.ref p1)))[3]? = some (some (.ref p1)) := by rw [List.getElem?_set]; simp [hl]
  have g2 : (σ.set 3 (some (V.ref p1)))[2]? = some (some (.ref a)) := by rw [List.getElem?_set]; simpa using h2
  refine ⟨.ref p1, g3, .inl ⟨rfl, _, .inl (.inl upd_same)⟩, isR_run E (by unfold five; simp) g2 ⟨p1, _, _, rfl, rfl, upd_same, by simp; omega, ?_⟩⟩
  rw [e4, upd_upd]
  have n1 : Nx T F H F (upd H p1 (.lst [V.bl b0, .bl b1, .bl b2, .bl b3, .bl b4])) := Nx.lay z hp1
  refine ⟨1, rfl, by simp; omega, fun p2 hp2 => ?_⟩
  have np : p1 ≠ p2 := fun e => by rw [← e, upd_same] at hp2; cases hp2
  have n2 := n1.trans (Nx.lay (T := T) (o := .tup [V.str "refused", V.int (-1)]) n1.z hp2)
  have k1 : (upd (upd H p1 (.lst [V.bl b0, .bl b1, .bl b2, .bl b3, .bl b4])) p2 (.tup [V.str "refused", V.int (-1)])) p1 = some (.lst [V.bl b0, .bl b1, .bl b2, .bl b3, .bl b4]) := by rw [upd_ne np, upd_same]
  have f3 : ((σ.set 3 (some (V.ref p1))).set 1 (some (V.ref p2)))[3]? = some (some (.ref p1)) := by rw [List.getElem?_set]; simpa using g3
  have f2 : ((σ.set 3 (some (V.ref p1))).set 1 (some (V.ref p2)))[2]? = some (some (.ref a)) := by rw [List.getElem?_set]; simpa using g2
  refine isV_run E f2 ⟨true, rfl, ?_⟩
  refine ⟨.ref p1, f3, .inl ⟨rfl, _, .inl (.inl k1)⟩, p1, _, .bl true, rfl, rfl, .inl (.inl k1), rfl, rfl, ?_⟩
  rw [hc]
  refine ⟨_, _, rfl, rfl, true, rfl, ?_⟩
  refine ⟨.ref p1, f3, .inl ⟨rfl, _, .inl (.inl k1)⟩, p1, _, .bl true, j, .bl true, rfl, rfl, .inl (.inl k1), rfl, rfl, hj, rfl, hno, ⟨by simp; omega, fun p3 hp3 => ?_⟩⟩
  have n3 := n2.trans (Nx.push (T := T) (o := .tup [V.str "refused", V.int (j : Nat)]) n2.z hp3 fun ps z => by cases z)
  refine hk _ p3 _ _ n3 upd_same (by simp [hl]) ?_
  rw [List.getElem?_set]
  simp [hl]
theorem told_gives {sg : Scope} {x q : Str} {g : Addr} {cdg : Value} {q1 q2 q3 q4 q5 q6 q7 q8 q9 q10 q11 q12 q13 q14 q15 q16 q17 q18 q19 q20 q21 q22 q23 q24 q25 q26 q27 q28 q29 q30 q31 q32 q33 q34 q35 q36 q37 q38 q39 q40 q41 q42 q43 q44 q45 q46 q47 q48 q49 q50 q51 q52 q53 q54 q55 q56 q57 q58 q59 q60 q61 q62 q63 q64 : Pos} (S : ToldS sg) (C : ToldC X.K X.mg) (h1 : (q26.endLine == q27.line) = true) (h2 : (q40.endLine == q41.line) = true) (h3 : (q42.endLine == q43.line) = true) :
    GivesTo X ["deed", "found", "e", "kinds"] x sg g cdg [.Try [(.Assign [(.Name "found" q1)] (.Tuple [(.Constant (.str "told") 0 q2), .Call (.Name "deed" q3) [] [] q4] 0 q5) q6)] [.ExceptHandler (some (.Name "PileError" q60)) (some "e") [(.Assign [(.Name "kinds" q7)] (.List [(.Call (.Name "isinstance" q8) [.Name "e" q9, .Name "TooGreat" q10] [] q11), (.Call (.Name "isinstance" q12) [.Name "e" q13, .Name "NoText" q14] [] q15), (.Call (.Name "isinstance" q16) [.Name "e" q17, .Name "NoDeed" q18] [] q19), (.Call (.Name "isinstance" q20) [.Name "e" q21, .Name "NoKey" q22] [] q23)] q24) q25), (.Expr (.Call (.Attribute (.Name "kinds" q28) "append" q26) [(.Call (.Name "isinstance" q29) [.Name "e" q30, .Name "NoRoom" q31] [] q32)] [] q27) q33), (.Assign [(.Name "found" q34)] (.Tuple [(.Constant (.str "refused") 0 q35), .UnaryOp .USub (.Constant (.int 1) 0 q36) q37] 0 q38) q39), (.If (.BoolOp .And [(.Call (.Name "isinstance" q44) [.Name "e" q45, .Name "ValueError" q46] [] q47), .Compare (.Call (.Attribute (.Name "kinds" q48) "count" q40) [.Constant (.bool true) 0 q49] [] q41) [.Eq] [.Constant (.int 1) 0 q50] q51] q52) [.Assign [(.Name "found" q53)] (.Tuple [(.Constant (.str "refused") 0 q54), .Call (.Attribute (.Name "kinds" q55) "index" q42) [.Constant (.bool true) 0 q56] [] q43] 0 q57) q58] [] q59)] q61] [] [] q62, .Return (some (.Name "found" q63)) q64] "deed" q (TTd X.K T) := by
  intro f c' s H Q tl act hc h
  obtain ⟨F, r, hz, htl, hq⟩ := h
  have vis : ∀ n ∈ (["deed", "found", "e", "kinds"] : List Str), Vis sg n := fun n hn => .inl (S.l n hn)
  have isE : ∀ (n : Str) (a : Addr) (oe : Obj) (D : Addr) (pn : List (Addr × Obj)) (p1 p2 p3 p4 : Pos), n ∈ five → ExcC X.K D → Zc (.ref D) none oe → (∃ vs, oe.data = .fields vs) → (n == ("__debug__" : Str)) = false →
      PE ((cxOf C8.CX0 X.prog X.w X.K X.mg X.base ["deed", "found", "e", "kinds"] x sg g cdg X.A X.stack s H C8.E0).nox.suite a ((a, oe) :: pn)) (.Call (.Name "isinstance" p1) [.Name "e" p2, .Name n p3] [] p4) (tCB (rIsE X.K D a) (tCons (tVar 2) (tCons (tC (.ref (He.ga X.K n))) tNil))) := fun n a oe D pn p1 p2 p3 p4 hn CC zc fl hdb =>
    pe_callB (call_isE CC zc fl) S.gi C.i bt_isinstance (pa_cons (pe_var (i := 2) rfl (vis "e" (by simp))) (pa_cons (pe_glob (v := .ref (He.ga X.K n)) (S.g n hn) (C.g n hn) rfl hdb) pa_nil))
  have isVE : ∀ (a : Addr) (oe : Obj) (D : Addr) (pn : List (Addr × Obj)) (p1 p2 p3 p4 : Pos), ExcC X.K D → Zc (.ref D) none oe → (∃ vs, oe.data = .fields vs) →
      PE ((cxOf C8.CX0 X.prog X.w X.K X.mg X.base ["deed", "found", "e", "kinds"] x sg g cdg X.A X.stack s H C8.E0).nox.suite a ((a, oe) :: pn)) (.Call (.Name "isinstance" p1) [.Name "e" p2, .Name "ValueError" p3] [] p4) (isV X.K D a) := fun a oe D pn p1 p2 p3 p4 CC zc fl =>
    pe_callB (call_isE CC zc fl) S.gi C.i bt_isinstance (pa_cons (pe_var (i := 2) rfl (vis "e" (by simp))) (pa_cons (pe_bltn (v := .ty "ValueError") S.gv C.v bt_ValueError rfl) pa_nil))
  have nd : (["deed", "found", "e", "kinds"] : List Str).Nodup := by decide +kernel
  have lf : sg.names.lookup ("found" : Str) = some .local := S.l "found" (by simp)
  have lk : sg.names.lookup ("kinds" : Str) = some .local := S.l "kinds" (by simp)
  have hs : ∀ (a : Addr) (oe : Obj) (D : Addr) (pn : List (Addr × Obj)), ExcC X.K D → Zc (.ref D) none oe → (∃ vs, oe.data = .fields vs) →
      PSs ((cxOf C8.CX0 X.prog X.w X.K X.mg X.base ["deed", "found", "e", "kinds"] x sg g cdg X.A X.stack s H C8.E0).nox.suite a ((a, oe) :: pn)) [(.Assign [(.Name "kinds" q7)] (.List [(.Call (.Name "isinstance" q8) [.Name "e" q9, .Name "TooGreat" q10] [] q11), (.Call (.Name "isinstance" q12) [.Name "e" q13, .Name "NoText" q14] [] q15), (.Call (.Name "isinstance" q16) [.Name "e" q17, .Name "NoDeed" q18] [] q19), (.Call (.Name "isinstance" q20) [.Name "e" q21, .Name "NoKey" q22] [] q23)] q24) q25), (.Expr (.Call (.Attribute (.Name "kinds" q28) "append" q26) [(.Call (.Name "isinstance" q29) [.Name "e" q30, .Name "NoRoom" q31] [] q32)] [] q27) q33), (.Assign [(.Name "found" q34)] (.Tuple [(.Constant (.str "refused") 0 q35), .UnaryOp .USub (.Constant (.int 1) 0 q36) q37] 0 q38) q39), (.If (.BoolOp .And [(.Call (.Name "isinstance" q44) [.Name "e" q45, .Name "ValueError" q46] [] q47), .Compare (.Call (.Attribute (.Name "kinds" q48) "count" q40) [.Constant (.bool true) 0 q49] [] q41) [.Eq] [.Constant (.int 1) 0 q50] q51] q52) [.Assign [(.Name "found" q53)] (.Tuple [(.Constant (.str "refused") 0 q54), .Call (.Attribute (.Name "kinds" q55) "index" q42) [.Constant (.bool true) 0 q56] [] q43] 0 q57) q58] [] q59)] (RS X.K a D) := fun a oe D pn CC zc fl =>
    pss_cons (ps_asg (pe_lst (pa_cons (isE "TooGreat" a oe D pn _ _ _ _ (by unfold five; simp) CC zc fl (by decide)) (pa_cons (isE "NoText" a oe D pn _ _ _ _ (by unfold five; simp) CC zc fl (by decide)) (pa_cons (isE "NoDeed" a oe D pn _ _ _ _ (by unfold five; simp) CC zc fl (by decide)) (pa_cons (isE "NoKey" a oe D pn _ _ _ _ (by unfold five; simp) CC zc fl (by decide)) pa_nil))))) (pg_name (i := 3) nd rfl (.inl lk) (.inr lk)))
    (pss_cons (ps_expr (pe_bm PySem.F.plainAttrs_list PySem.F.slot_list_append PySem.F.type_list_append mt_append (pe_var (i := 3) rfl (.inl lk)) (pa_cons (isE "NoRoom" a oe D pn _ _ _ _ (by unfold five; simp) CC zc fl (by decide)) pa_nil) rfl rfl h1))
    (pss_cons (ps_asg (pe_tup (pa_cons pe_str (pa_cons (pe_un un_neg pe_int) pa_nil))) (pg_name (i := 1) nd rfl (.inl lf) (.inr lf)))
    (pss_one (ps_if (PW.pt (pw_and (pt_val (isVE a oe D pn _ _ _ _ CC zc fl)) (pw_and1 (pt_cmp (pc_eqI (pe_bm PySem.F.plainAttrs_list PySem.F.slot_list_count PySem.F.type_list_count mt_countF (pe_var (i := 3) rfl (.inl lk)) (pa_cons pe_bl pa_nil) rfl rfl h2) pe_int)))))
      (pss_one (ps_asg (pe_tup (pa_cons pe_str (pa_cons (pe_bm PySem.F.plainAttrs_list PySem.F.slot_list_index PySem.F.type_list_index mt_index (pe_var (i := 3) rfl (.inl lk)) (pa_cons pe_bl pa_nil) rfl rfl h3) pa_nil))) (pg_name (i := 1) nd rfl (.inl lf) (.inr lf)))) pss_nil))))
  refine ⟨_, pss_cons (ps_try_as (X := (cxOf C8.CX0 X.prog X.w X.K X.mg X.base ["deed", "found", "e", "kinds"] x sg g cdg X.A X.stack s H C8.E0).nox) (c := .ref (He.ga X.K "PileError")) (i := 2)
      (tb := fun W D σ H => ∃ Ech : XK, (∀ cls d σ' H', Ech cls d H' → σ'.length = 4 → W cls d σ' H') ∧ σ[0]? = some (some (.ref f)) ∧ H c' = some (CodeO c' q) ∧ tl Ech H fun v H1 => ([V.str "told", v] : List V).length ≤ sizeLine ∧ ∀ p, H1 p = none → D.nx (σ.set 1 (some (.ref p))) (upd H1 p (.tup [.str "told", v])))
      (ts := fun a cls d D σ H => ∃ C, cls = .ref C ∧ d = none ∧ ExcC X.K C ∧ RS X.K a C D σ H)
      (Wout := fun _ _ _ _ => False) rfl rfl nd rfl (S.l "e" (by simp)) ⟨S.gp, by decide, .inl C.p⟩ LamX.takes0 (fun W pn xe tk _ => ?_) (fun a oe cls d pn zc fl => ?_)) (pss_one (ps_ret (pe_var (i := 1) rfl (.inl lf)))), ?_⟩
  · refine ⟨fun pins s' σ H' D I h' => ?_⟩
    obtain ⟨Ech, hW, e1, e2, e3⟩ := h'
    have hp := act (fun c d σ H => σ.length = 4 → W c d σ H) pn xe Ech q3 q4 (takes_len tk) hW
    exact (pss_one (ps_asg (pe_tup (pa_cons pe_str (pa_cons hp pa_nil))) (pg_name (i := 1) nd rfl (.inl lf) (.inr lf)))).run pins s' σ H' D I ⟨e1, e2, e3⟩
  · refine ⟨fun pins s' σ H' D I h' => ?_⟩
    obtain ⟨CC, rfl, rfl, ce, h'⟩ := h'
    exact (hs a oe CC pn ce zc fl).run pins s' σ H' D I h'
  · have sl := sizeLine_eq
    refine ⟨fun cls d H' => ∃ n k F', cls = .ref (He.ga X.K n) ∧ d = none ∧ kindIx n = some k ∧ Nx T F H F' H' ∧ ∀ v F'' H'', Nx T F H F'' H'' → Rp X.K F'' v (.tup [.str "refused", .int k]) → Q v H'', ?_, rfl, hc, ?_⟩
    · intro cls d σ' H' ⟨n, k, F', ec, ed, ek, nx, hQ⟩ hl
      subst ec ed
      have ek' := C.ex n (kindIx_mem ek)
      refine ⟨true, ek'.m, fun _ a ha => ⟨_, rfl, rfl, ek'.c, ?_⟩, fun z => by cases z⟩
      have fin : ∀ (j : Nat) (σ2 : L2.St) (p : Addr) (F2 H2 : Hp), k = (j : Int) → Nx T F' H' F2 H2 → F2 p = some (.tup [.str "refused", .int (j : Nat)]) → σ2.length = 4 → σ2[1]? = some (some (.ref p)) → tRet (tVar 1) { nx := fun _ H' => Q .non H', rt := Q } (σ2.set 2 none) H2 := fun j σ2 p F2 H2 e n2 fp l2 h1 => by
        refine ⟨.ref p, ?_, hQ _ F2 H2 (nx.trans n2) ?_⟩
        · rw [List.getElem?_set]; simpa using h1
        · rw [e]
          exact .tup (.inl (.inl fp)) (.cons (.str _) (.cons (.int _) .nil))
      have l2 : (σ'.set 2 (some (V.ref a))).length = 4 := by rw [List.length_set]; exact hl
      have g2 : (σ'.set 2 (some (V.ref a)))[2]? = some (some (.ref a)) := by rw [List.getElem?_set]; simp [hl]
      have hno : ∀ (l : List V) (j : Nat), (l.take j).all (fun z => !eqV z (.bl true)) = true → ∀ (m : Nat) (z' : V), m < j → l[m]? = some z' → eqV z' (.bl true) = false := fun l j ha m z' hm he => by
        have := List.all_eq_true.mp ha z' (List.mem_of_getElem? (i := m) (by rw [List.getElem?_take, if_pos hm]; exact he))
        simpa using this
      unfold kindIx at ek
      split at ek
      · rename_i e; subst e; cases ek
        exact suite_run (T := T) (j := 0) ek' nx.z l2 g2 (b0 := true) (b1 := false) (b2 := false) (b3 := false) (b4 := false) (by decide +kernel) (by decide +kernel) (by decide +kernel) (by decide +kernel) (by decide +kernel) rfl rfl (hno _ _ rfl) fun σ2 p F2 H2 => fin 0 σ2 p F2 H2 rfl
      · split at ek
        · rename_i e; subst e; cases ek
          exact suite_run (T := T) (j := 1) ek' nx.z l2 g2 (b0 := false) (b1 := true) (b2 := false) (b3 := false) (b4 := false) (by decide +kernel) (by decide +kernel) (by decide +kernel) (by decide +kernel) (by decide +kernel) rfl rfl (hno _ _ rfl) fun σ2 p F2 H2 => fin 1 σ2 p F2 H2 rfl
        · split at ek
          · rename_i e; subst e; cases ek
            exact suite_run (T := T) (j := 2) ek' nx.z l2 g2 (b0 := false) (b1 := false) (b2 := true) (b3 := false) (b4 := false) (by decide +kernel) (by decide +kernel) (by decide +kernel) (by decide +kernel) (by decide +kernel) rfl rfl (hno _ _ rfl) fun σ2 p F2 H2 => fin 2 σ2 p F2 H2 rfl
          · split at ek
            · rename_i e; subst e; cases ek
              exact suite_run (T := T) (j := 3) ek' nx.z l2 g2 (b0 := false) (b1 := false) (b2 := false) (b3 := true) (b4 := false) (by decide +kernel) (by decide +kernel) (by decide +kernel) (by decide +kernel) (by decide +kernel) rfl rfl (hno _ _ rfl) fun σ2 p F2 H2 => fin 3 σ2 p F2 H2 rfl
            · split at ek
              · rename_i e; subst e; cases ek
                exact suite_run (T := T) (j := 4) ek' nx.z l2 g2 (b0 := false) (b1 := false) (b2 := false) (b3 := false) (b4 := true) (by decide +kernel) (by decide +kernel) (by decide +kernel) (by decide +kernel) (by decide +kernel) rfl rfl (hno _ _ rfl) fun σ2 p F2 H2 => fin 4 σ2 p F2 H2 rfl
              · cases ek
    · refine htl _ H F _ (Nx.refl hz) ?_
      cases r with
      | ok d =>
        intro v F1 H1 n1 rv
        refine ⟨by simp; omega, fun p hp => ⟨.ref p, rfl, ?_⟩⟩
        have n2 := n1.trans (Nx.push (T := T) (o := .tup [V.str "told", v]) n1.z hp fun ps z => by cases z)
        exact hq (.ref p) _ _ n2 (.tup (.inl (.inl upd_same)) (.cons (.str _) (.cons (rv.mono (Nx.push (T := T) n1.z hp fun ps z => by cases z).f) .nil)))
      | ex n =>
        intro F1 H1 n1
        cases e : kindIx n with
        | none =>
          have hq : aft (Rp X.K) X.K T (fun _ _ _ _ => False) [] F H Q (match kindIx n with
            | some k => .ok (.tup [.str "refused", .int k])
            | none => .bad) := hq
          rw [e] at hq
          exact hq.elim
        | some k =>
          have hq : aft (Rp X.K) X.K T (fun _ _ _ _ => False) [] F H Q (match kindIx n with
            | some k => .ok (.tup [.str "refused", .int k])
            | none => .bad) := hq
          rw [e] at hq
          exact ⟨n, k, F1, rfl, rfl, e, n1, hq⟩
      | bad => exact hq.elim
end
end DN
namespace DN
open PySem PySem.Spec PyProof.Rows L2
open LamX (Tabs ExtN CodeO GivesTo tLam LamS TabB lamCx lamEnv)

/-- a def that makes lambdas: its code object is known -/
theorem fn_okC {P : Program} {w : World} {K : PySem.W.Frag} {mg : Str → Option Value} {base : Heap} {T : List (Addr × Str)} {k : Nat} {x qual : Str} {params : Arguments} {body : List Stmt} {scope : Scope} {kws : List (Str × V)} {fd : FuncData} {N ps : List Str} {n : Nat} {s : Rho → SR}
    (Fd : FunD K x qual params body scope [] kws (He.ga K x) fd) (S : FnScope N ps scope) (hn : ps.length = n)
    (hb : ∀ (A : Around) (outer : List Env) (s0 : Shared) (H0 : Hp) (E : XK) (F0 : Hp), Room k (A.deeper (envOfC qual scope s0.heap.objs.size (He.ga K x) (.ref (He.cT K (x, none)).1))) → DSs (cxOf (L2.CX P w) P w K mg base N qual scope (He.ga K x) (.ref (He.cT K (x, none)).1) A outer s0 H0 E) T (WofE E) F0 H0 body s) :
    FnOk P w K mg base (L2.CX P w) (k + 1) (He.ga K x) fd ps (spD K T n (runB N.length s)) := by
  obtain ⟨oc, od, dV, kV, doc, pm, an, cdv, ct, osl, rfl, lk, hcd, hD, hK⟩ := Fd.ex
  obtain ⟨c, rfl⟩ := He.codeIn_ref hcd
  have ec : (He.cT K (x, none)).1 = c := He.codeOf_eq (p := (x, none)) lk rfl
  rw [ec] at hb
  refine fn_of lk hcd S (fun vs H Q E h => ?_) fun A outer s0 H vs Q E hr h => ?_
  · obtain ⟨F, ds, _, _, r, hl, _⟩ := h
    rw [r.length, hl, hn]
  · obtain ⟨F, ds, z, tb, r, hl, h⟩ := h
    refine ⟨_, hb A outer s0 H E F hr, startR N.length ds, F, ⟨⟨z, tb, Rl.start r⟩, Nx.refl z, fun i d p h1 => ?_⟩, ?_⟩
    · exfalso
      unfold startR at h1
      rw [List.getElem?_append] at h1
      split at h1
      · rw [List.getElem?_map] at h1
        cases e : ds[i]? with
        | none => rw [e] at h1; cases h1
        | some d => rw [e] at h1; cases h1
      · rw [List.getElem?_replicate] at h1
        split at h1 <;> cases h1
    · unfold runB at h
      cases e : s (startR N.length ds) with
      | nx ρ => rw [e] at h; exact fun σ F' H' g _ => h .non F' H' g.nx .non
      | rt d => rw [e] at h; exact fun v F' H' nx rv => h v F' H' nx rv
      | ex m ρ => rw [e] at h; exact fun σ F' H' g _ => h F' H' g.nx
      | bk ρ => rw [e] at h; exact h.elim
      | ct ρ => rw [e] at h; exact h.elim
      | bad => rw [e] at h; exact h.elim
section
variable {X : Cx} {T : List (Addr × Str)} {W : WX}
theorem nx_tabs {F H H1 : Hp} (z : Fz F H) (e : ExtN H H1) (t : Tabs T H1) : Nx T F H F H1 :=
  ⟨Sub.refl F, ⟨fun a o h => e a o (z.sub a o h) fun ps q => z.nt a ps (by rw [h, q]), z.nt⟩, e, fun a o h => .inl h, fun _ => t⟩
theorem e_told {pg : Arguments} {bg : List Stmt} {sg : Scope} {fd : FuncData} {c P : Addr} {k : Nat} {params : Arguments} {body : Expr} {scope : Scope} {f : Rho → Res D} {p lpos pos : Pos} {q : Str}
    (Fd : FunD X.K "_law_told" "_law_told" pg bg sg [] [] (He.ga X.K "_law_told") fd) (hm : X.mg "_law_told" = some (.ref (He.ga X.K "_law_told"))) (hbn : L2.Binds X.K fd ["deed"] []) (Sg : FnScope ["deed", "found", "e", "kinds"] ["deed"] sg)
    (hG : ∀ cdg, GivesTo X ["deed", "found", "e", "kinds"] "_law_told" sg (He.ga X.K "_law_told") cdg bg "deed" (X.env.qual ++ "<lambda>") (TTd X.K T))
    (TB : TabB X.base X.mg c P) (hcode : X.env.code = .ref c) (hq : X.env.qual ++ "<lambda>" = q) (hmT : (P, q) ∈ T) (hu : ∀ p ∈ T, p.1 = P → p.2 = q) (hg : Gl X "_law_told") (hr : Room (k + 2) X.A) (L : LamX.lamSB X.env.scope scope = true)
    (hbody : ∀ (A : Around) (outer : List Env) (s : Shared) (H : Hp) (E : XK) (f' c' : Addr), Room k (A.deeper (lamEnv X scope s.heap.objs.size f' c')) → DE (lamCx X A outer s H E scope f' c') T (WofE E) body f)
    (hdef : defaultsOf params X.env = ([], []) := by rfl)
    (hbind : ∀ (q : Str) (cl : List (Str × Addr)) (pm cv ctv : Value), bindArgs (PySem.W.kla_fn "<lambda>" q params body scope cl pm cv ctv) ⟨[], []⟩ = pure [] := by intros; rfl) :
    DE X T W (.Call (.Name "_law_told" p) [.Lambda params body scope lpos] [] pos) (toldD f) := by
  subst hq
  obtain ⟨oc, od, dV, kV, doc, pm, an, cdv, ct, osl, rfl, lk, hcd, hD, hK⟩ := Fd.ex
  refine (LamX.pe_lamcall (k := k) (t := fun E => tE X.K T (WofE E) f) hg hm Fd.kp lk hcd hbn Sg rfl (Sg.par "deed" (by simp) |>.elim .inl fun z => .inr (.inl z)) (hG cdv) TB hcode hmT hu hr (LamX.lamS_by L) hdef hbind (fun A outer s H E f' c' hr' => hbody A outer s H E f' c' hr')).to fun σ H Q h => ?_
  obtain ⟨ρ, F, a, h⟩ := h
  refine ⟨a.t, fun H1 e1 t1 => ?_⟩
  have n := nx_tabs a.z e1 t1
  have h := aft.mono n h
  refine ⟨F, f ρ, n.z, fun E H' F' Q' n2 h2 => ⟨ρ, F', (a.nx n).nx n2, ?_⟩, ?_⟩
  · cases e : f ρ with
    | ok d => rw [e] at h2; exact h2
    | ex m => rw [e] at h2; exact h2
    | bad => rw [e] at h2; exact h2
  · unfold toldD at h
    cases e : toldR (f ρ) with
    | ok d => rw [e] at h; exact h
    | bad => rw [e] at h; exact h
    | ex m =>
      exfalso
      unfold toldR at e
      split at e
      · cases e
      · split at e <;> cases e
      · cases e
end
theorem lawAtT {l : PySem.W.OpenLaw} {w : World} {K : PySem.W.Frag} {k n : Nat} {x : Str} {mg : Str → Option Value} {fa : Addr} {h : Heap} {fd : FuncData} {den : List D → Res D} {tf : List He.Defn} {T : List (Addr × Str)} (X : K.In h)
    (hd0 : ∀ p ∈ tf, PySem.W.codeHdIn K (He.cT K p).1 (He.cT K p).2 = true) (out : ∀ p ∈ tf, K.lookup (He.cT K p).2 = none) (empty : ∀ p ∈ tf, h.get? (He.cT K p).2 = some { cls := .none, data := .fields #[] })
    (hT : ∀ p ∈ T, ∃ d ∈ tf, p.1 = (He.cT K d).2)
    (hb : ∀ (s : Shared) (u : Value), BindsTo s fd ⟨[u], []⟩ [(x, u)])
    (hd : ∀ ns : List Int, ns.length ≤ n → (∀ z ∈ ns, Builtin.Int.intBits z ≤ 1048576) → den [.arr ns] = .ok (.bl true))
    (hF : ∀ base : Heap, K.In base → base.Ns mainGlobals mg → (∀ d ∈ tf, TabB base mg (He.cT K d).1 (He.cT K d).2) → FnOk l.prog w K mg base (L2.CX l.prog w) k fa fd [x] (spD K T 1 den)) : LamX.LawAtS l w K (L2.CX l.prog w) k n x mg fa h := by
  have key : ∀ p ∈ tf.map (He.cT K), ∃ d ∈ tf, p = He.cT K d := fun p hp => by
    obtain ⟨d, h1, h2⟩ := List.mem_map.mp hp
    exact ⟨d, h1, h2.symm⟩
  refine ⟨fd, tf.map (He.cT K), spD K T 1 den, fun p hp => ?_, fun p hp => ?_, fun p hp => ?_, hb, fun H a ns hl hz ht hS => law_sp (fun p hp => ?_) hS (hd ns hl hz), fun base h1 h2 h3 => hF base h1 h2 fun d hd => h3 _ (List.mem_map.mpr ⟨d, hd, rfl⟩)⟩
  · obtain ⟨d, h1, rfl⟩ := key p hp; exact empty d h1
  · obtain ⟨d, h1, rfl⟩ := key p hp; exact out d h1
  · obtain ⟨d, h1, rfl⟩ := key p hp; exact PySem.W.codeHd_of_K X (hd0 d h1)
  · obtain ⟨d, h1, h2⟩ := hT p hp
    rw [h2]
    exact LamX.TabS.nil (ht _ (List.mem_map.mpr ⟨d, h1, rfl⟩))
theorem told_c {K : PySem.W.Frag} {mg : Str → Option Value} (h : ∀ n ∈ five, ExK K n) (g0 : mg "TooGreat" = some (.ref (He.ga K "TooGreat"))) (g1 : mg "NoText" = some (.ref (He.ga K "NoText"))) (g2 : mg "NoDeed" = some (.ref (He.ga K "NoDeed"))) (g3 : mg "NoKey" = some (.ref (He.ga K "NoKey"))) (g4 : mg "NoRoom" = some (.ref (He.ga K "NoRoom")))
    (p : mg "PileError" = some (.ref (He.ga K "PileError"))) (i : mg "isinstance" = none) (v : mg "ValueError" = none) : ToldC K mg := ⟨h, fun n hn => by
  unfold five at hn
  simp only [List.mem_cons, List.not_mem_nil, or_false] at hn
  rcases hn with rfl | rfl | rfl | rfl | rfl <;> assumption, p, i, v⟩
theorem exc_n {K : PySem.W.Frag} {h : Heap} {mg : Str → Option Value} {x : Str} (X : K.In h) (G : h.Ns mainGlobals mg) (c : (He.Fa.glo x).ok K = true) (e : (He.Fa.exc x).ok K = true) : ExcN K mg x := by
  obtain ⟨h1, h2, h3, h4⟩ := He.exc_ok e
  exact ⟨h1, h2, h3, h4, He.glo_ok X G c⟩
end DN
namespace DN
open PySem PySem.Spec PyProof.Rows L2
open LamX (Tabs ExtN)
section
variable {X : Cx} {T : List (Addr × Str)} {W : WX}
end
end DN
namespace DN
open PySem PySem.Spec PyProof.Rows L2
open LamX (Tabs ExtN)

/-! ### a module's dict of defs, text keys -/
theorem keys_miss {P : Params} {z : Str} : ∀ {l : List DictEntry} {ks : List Str}, l.map He.keyOf = He.keysIn P ks → z ∉ ks → l.find? (·.key.isStr z) = none ∧ l.any (·.refKey) = false
  | [], _, _, _ => ⟨rfl, rfl⟩
  | e :: r, [], h, _ => by cases h
  | e :: r, k :: ks, h, hz => by
    have h1 : He.keyOf e :: r.map He.keyOf = some (k, PyData.keyHash P k) :: He.keysIn P ks := h
    injection h1 with h2 h3
    obtain ⟨i1, i2⟩ := keys_miss h3 (fun q => hz (List.mem_cons_of_mem _ q))
    have hk : ∃ t, e.key = .str k t := by
      unfold He.keyOf at h2
      split at h2
      · rename_i x t q
        obtain ⟨h5, _⟩ := Prod.mk.inj (Option.some.inj h2)
        exact ⟨t, by rw [q, h5]⟩
      · cases h2
    obtain ⟨t, hk⟩ := hk
    have n1 : e.key.isStr z = false := by
      rw [hk]
      show (k == z) = false
      exact beq_eq_false_iff_ne.mpr fun q => hz (by rw [q]; exact List.mem_cons_self)
    have n2 : e.refKey = false := by unfold DictEntry.refKey; rw [hk]
    refine ⟨?_, ?_⟩
    · rw [List.find?_cons, n1]; exact i1
    · rw [List.any_cons, n2, i2]; rfl
/-- the module's dict x: text keys, defs -/
structure DicF (w : World) (K : PySem.W.Frag) (mg : Str → Option Value) (x : Str) (kvs : List (Str × Str)) : Prop where
  kd : ∃ es n, KDict K w (He.ga K x) es n ∧ es.toList.map He.keyOf = He.keysIn w.params (kvs.map Prod.fst)
  vals : ∀ q ∈ kvs, ∃ u, PySem.W.nsIn K (He.ga K x) q.1 = some (some u) ∧ RelV (.ref (He.ga K q.2)) u
  g : mg x = some (.ref (He.ga K x))
theorem DicF.ns {w : World} {K : PySem.W.Frag} {mg : Str → Option Value} {x : Str} {kvs : List (Str × Str)} (D : DicF w K mg x kvs) (z : Str) : ∃ r, PySem.W.nsIn K (He.ga K x) z = some r ∧ r.isSome = (kvs.map Prod.fst).contains z := by
  by_cases h : z ∈ kvs.map Prod.fst
  · obtain ⟨q, hq, rfl⟩ := List.mem_map.mp h
    obtain ⟨u, h1, _⟩ := D.vals q hq
    exact ⟨some u, h1, by rw [List.contains_iff_mem.mpr h]; rfl⟩
  · obtain ⟨es, n, kd, hk⟩ := D.kd
    obtain ⟨h1, h2⟩ := keys_miss hk h
    refine ⟨none, ?_, ?_⟩
    · unfold PySem.W.nsIn
      rw [kd.at_]
      simp only [h1, h2]
      rfl
    · have : (kvs.map Prod.fst).contains z = false := by
        rw [Bool.eq_false_iff]
        exact fun q => h (List.contains_iff_mem.mp q)
      rw [this]; rfl
section
variable {X : Cx} {T : List (Addr × Str)} {W : WX} {F0 H0 : Hp}
/-! ### a call of a name that holds a def -/
/-! ### try with two handlers -/
end
end DN
namespace DN
open PySem PySem.Spec PyProof.Rows L2
open LamX (Tabs ExtN)

theorem lt1 {a c : Nat} (h : a + 64 < c) : a + 1 < c := by omega
section
variable {X : Cx} {T : List (Addr × Str)} {W : WX} {F0 H0 : Hp}
/-! ### a display of text keys that is used at once -/
structure DP (X : Cx) (T : List (Addr × Str)) (W : WX) (pos : Pos) (keys : List (Option Expr)) (values : List Expr) (ks : List Str) (f : Rho → Res (List D)) : Prop where
  ex : ∃ trs, PPs X pos keys values trs ∧ ∀ σ H (Q : List (V × V) → Hp → Prop), tA X.K T W f σ H (fun vs H' => Q ((ks.zip vs).map fun q => (V.str q.1, q.2)) H') → tPairs trs σ H Q
  len : keys.length = ks.length
  some : keys.all (·.isSome) = true
  vlen : keys.length = values.length
theorem dp_nil {pos : Pos} : DP X T W pos [] [] [] anil := ⟨⟨[], pps_nil, fun σ H Q ⟨ρ, F, a, h⟩ => h [] F H (Nx.refl a.z) .nil⟩, rfl, rfl, rfl⟩
theorem dp_cons {pos p : Pos} {j : Nat} {k : Str} {v : Expr} {keys : List (Option Expr)} {values : List Expr} {ks : List Str} {f : Rho → Res D} {g : Rho → Res (List D)} (hv : DE X T W v f) (hr : DP X T W pos keys values ks g) :
    DP X T W pos (some (.Constant (.str k) j p) :: keys) (v :: values) (k :: ks) (acons f g) := by
  obtain ⟨trs, h1, h2⟩ := hr.ex
  refine ⟨⟨_, pps_cons pe_str hv h1, fun σ H Q ⟨ρ, F, a, h⟩ => ?_⟩, by rw [List.length_cons, List.length_cons, hr.len], by rw [List.all_cons, hr.some]; rfl, by rw [List.length_cons, List.length_cons, hr.vlen]⟩
  show tE X.K T W f σ H fun y H2 => tPairs trs σ H2 fun ps H3 => Q ((V.str k, y) :: ps) H3
  refine ⟨ρ, F, a, (aft.bind (R := Rp X.K) h).imp fun d _ v F1 H1 _ _ q => ?_⟩
  obtain ⟨b, F2, _, n, rv, q⟩ := q
  refine h2 σ H1 _ ⟨ρ, F2, a.nx n, (aft.bind (R := RpAll X.K) q).imp fun ds _ vs F3 H3 _ _ q => ?_⟩
  obtain ⟨ds', F4, _, n2, rs, q⟩ := q
  exact q.ok (Nx.refl n2.z) (.cons (rv.mono n2.f) rs)
theorem merge_new : ∀ (more acc : List (Key × V)), (∀ k ∈ more.map Prod.fst, k ∉ acc.map Prod.fst) → (more.map Prod.fst).Nodup → mergeK acc more = acc ++ more
  | [], acc, _, _ => by show acc = acc ++ []; rw [List.append_nil]
  | p :: r, acc, h, hn => by
    rw [List.map_cons, List.nodup_cons] at hn
    have e : putK acc p.1 p.2 = acc ++ [p] := by
      unfold putK
      rw [if_neg]
      intro z
      obtain ⟨q, hq, e⟩ := List.any_eq_true.mp z
      exact h p.1 List.mem_cons_self (by rw [← of_decide_eq_true e]; exact List.mem_map.mpr ⟨q, hq, rfl⟩)
    show mergeK (putK acc p.1 p.2) r = _
    rw [e, merge_new r (acc ++ [p]) (fun k hk hq => ?_) hn.2, List.append_assoc]
    · rfl
    · rw [List.map_append, List.mem_append] at hq
      rcases hq with hq | hq
      · exact h k (List.mem_cons_of_mem _ hk) hq
      · simp at hq
        rw [hq] at hk
        exact hn.1 hk
def kvK (ks : List Str) (vs : List V) : List (Key × V) := (ks.zip vs).map fun q => (Sum.inr q.1, q.2)
theorem zip_fst {α β : Type} : ∀ {a : List α} {b : List β}, a.length = b.length → (a.zip b).map Prod.fst = a
  | [], [], _ => rfl
  | x :: a, y :: b, h => by
    rw [List.zip_cons_cons, List.map_cons, zip_fst (by simpa using h)]
theorem val_look {K : PySem.W.Frag} {F : Hp} {z : Str} : ∀ {ks : List Str} {vs : List V} {ds : List D}, RpAll K F vs ds → ks.length = vs.length →
    ((∃ v d, valV (kvK ks vs) (Sum.inr z) = some v ∧ (ks.zip ds).lookup z = some d ∧ Rp K F v d) ∨ (valV (kvK ks vs) (Sum.inr z) = none ∧ (ks.zip ds).lookup z = none))
  | [], [], [], _, _ => .inr ⟨rfl, rfl⟩
  | k :: ks, v :: vs, d :: ds, .cons h t, hl => by
    by_cases e : k = z
    · subst e
      refine .inl ⟨v, d, valV_pos rfl, ?_, h⟩
      simp [List.lookup]
    · have e2 : (z == k) = false := beq_eq_false_iff_ne.mpr fun q => e q.symm
      have e3 : valV (kvK (k :: ks) (v :: vs)) (Sum.inr z) = valV (kvK ks vs) (Sum.inr z) := valV_neg (p := (Sum.inr k, v)) fun q => e (Sum.inr.inj q)
      have e4 : ((k :: ks).zip (d :: ds)).lookup z = (ks.zip ds).lookup z := by
        rw [List.zip_cons_cons, List.lookup_cons, e2]
      rw [e3, e4]
      exact val_look t (by simpa using hl)
theorem tabs_updD {T : List (Addr × Str)} {H : Hp} {p : Addr} {xs : List (Key × V)} {o : HO} (h : Tabs T H) (e : H p = some (.dK xs)) : Tabs T (upd H p o) := fun q hq => by
  obtain ⟨ps, h1, h2, h3⟩ := h q hq
  refine ⟨ps, ?_, h2, fun pos cv hc => ?_⟩
  · rw [upd_ne fun z => by rw [z, e] at h1; cases h1]; exact h1
  · obtain ⟨c, e1, e2⟩ := h3 pos cv hc
    refine ⟨c, e1, ?_⟩
    rw [upd_ne fun z => by rw [z, e] at e2; unfold LamX.CodeO at e2; cases e2]; exact e2
/-- a dict laid empty at p, filled behind the values -/
theorem nx_fill {F H F1 H1 : Hp} {p : Addr} {o : HO} (z : Fz F H) (hp : H p = none) (n1 : Nx T F (upd H p (.dK [])) F1 H1) : Nx T F H F1 (upd H1 p o) ∧ H1 p = some (.dK []) := by
  have fp : F p = none := by
    cases q : F p with
    | none => rfl
    | some u =>
      have := z.sub _ _ q
      rw [hp] at this; cases this
  have k1 : H1 p = some (.dK []) := n1.keep upd_same fun ps q => by cases q
  have f1 : F1 p = none := n1.out (a := p) (o := .dK []) upd_same (fun ps q => by cases q) fp
  refine ⟨⟨n1.f, ⟨fun x u e => ?_, n1.z.nt⟩, fun b u e nt => ?_, fun x u e => ?_, fun t => ?_⟩, k1⟩
  · rw [upd_ne fun q => by rw [q, f1] at e; cases e]
    exact n1.z.sub _ _ e
  · have hb : b ≠ p := ne_of_none e hp
    rw [upd_ne hb]
    exact n1.h b u (by rw [upd_ne hb]; exact e) nt
  · rcases n1.new x u e with h | h
    · exact .inl h
    · exact .inr fun o' e' => h o' (by rw [upd_ne (ne_of_none e' hp)]; exact e')
  · exact tabs_updD (n1.tab ((Nx.lay (T := T) z hp).tab t)) k1
end
end DN
namespace DN
open PySem PySem.Spec PyProof.Rows L2
open LamX (Tabs ExtN)

section
variable {X : Cx} {T : List (Addr × Str)} {W : WX} {F0 H0 : Hp}
/-! ### a display of text keys, its item taken at once -/
def dixD (ks : List Str) (f : Rho → Res (List D)) (fe : Rho → Res D) : Rho → Res D := fun ρ => (f ρ).bind fun ds => if ds.length = ks.length then (fe ρ).bind fun k => (match k with
  | .str z => ofO ((ks.zip ds).lookup z)
  | _ => .bad) else .bad
theorem e_dix {pos spos : Pos} {keys : List (Option Expr)} {values : List Expr} {ks : List Str} {f : Rho → Res (List D)} {e : Expr} {fe : Rho → Res D} (hu : X.A.units + 1 < cLine) (hd : DP X T W pos keys values ks f) (he : DE X T W e fe) (h0 : keys ≠ []) (h15 : ks.length ≤ 15) (hnd : ks.Nodup) (hs : NoSl e) :
    DE X T W (.Subscript (.Dict keys values pos) e spos) (dixD ks f fe) := by
  obtain ⟨trs, h1, ht⟩ := hd.ex
  refine (pe_dget hu (pe_disp h1 hd.some hd.vlen h0 (by rw [hd.len]; exact h15)) he hs).to fun σ H Q ⟨ρ, F, a, h⟩ => ?_
  intro p hp
  have n0 : Nx T F H F (upd H p (.dK [])) := Nx.lay a.z hp
  refine ht σ _ _ ⟨ρ, F, a.nx n0, ((aft.bind (R := RpAll X.K) (aft.mono n0 h))).imp fun ds _ vs F1' H1 _ _ q => ?_⟩
  obtain ⟨ds', F1, e', n1, rv, _⟩ := q
  obtain ⟨nf, k1⟩ := nx_fill (o := .dK (kvK ks vs)) a.z hp n1
  have h' := aft.mono nf h
  unfold dixD at h'
  rw [e'] at h'
  have h' : aft (Rp X.K) X.K T W σ F1 (upd H1 p (.dK (kvK ks vs))) Q (if ds'.length = ks.length then (fe ρ).bind fun k => (match k with
    | .str z => ofO ((ks.zip ds').lookup z)
    | _ => .bad) else .bad) := h'
  by_cases hl : ds'.length = ks.length
  · rw [if_pos hl] at h'
    have hlv : ks.length = vs.length := by rw [rv.length, hl]
    have hm : mergeK [] (kvK ks vs) = kvK ks vs := by
      rw [merge_new _ _ (fun k _ q => by cases q)]
      · rfl
      · unfold kvK
        rw [List.map_map]
        have e3 : (ks.zip vs).map (Prod.fst ∘ fun q => ((Sum.inr q.1 : Key), q.2)) = ks.map Sum.inr := by
          have : (Prod.fst ∘ fun q : Str × V => ((Sum.inr q.1 : Key), q.2)) = Sum.inr ∘ Prod.fst := rfl
          rw [this, ← List.map_map, zip_fst hlv]
        rw [e3]
        exact List.Pairwise.map _ (fun _ _ q z => q (Sum.inr.inj z)) hnd
    refine ⟨k1, kvK ks vs, ?_, ?_, ?_⟩
    · unfold kvK
      rw [List.map_map]
      rfl
    · unfold kvK
      rw [List.length_map, List.length_zip]
      omega
    · rw [hm]
      refine ⟨ρ, F1, a.nx nf, (aft.bind (R := Rp X.K) h').imp fun d _ y F2 H2 _ _ q => ?_⟩
      obtain ⟨k, F3, _, n3, ry, q⟩ := q
      have kp : H2 p = some (.dK (kvK ks vs)) := n3.keep upd_same fun ps z => by cases z
      cases ry with
      | str x =>
        have q : aft (Rp X.K) X.K T W σ F3 H2 Q (ofO ((ks.zip ds').lookup x)) := q
        rcases val_look (z := x) (RpAll.mono n3.f rv) hlv with ⟨v, d, w1, w2, w3⟩ | ⟨w1, w2⟩
        · rw [w2] at q
          exact ⟨p, v, rfl, .inl ⟨_, Sum.inr x, .inl kp, rfl, w1.symm⟩, q v F3 H2 (Nx.refl n3.z) w3⟩
        · rw [w2] at q
          exact q.elim
      | _ => exact q.elim
  · rw [if_neg hl] at h'
    exact h'.elim
end
/-! ### a module's dict of texts -/
structure DicS (w : World) (K : PySem.W.Frag) (mg : Str → Option Value) (x : Str) (kvs : List (Str × Str)) : Prop where
  kd : ∃ es n, KDict K w (He.ga K x) es n ∧ es.toList.map He.keyOf = He.keysIn w.params (kvs.map Prod.fst)
  vals : ∀ q ∈ kvs, ∃ u, PySem.W.nsIn K (He.ga K x) q.1 = some (some u) ∧ RelV (.str q.2) u
  g : mg x = some (.ref (He.ga K x))
theorem DicS.ns {w : World} {K : PySem.W.Frag} {mg : Str → Option Value} {x : Str} {kvs : List (Str × Str)} (D : DicS w K mg x kvs) (z : Str) : ∃ r, PySem.W.nsIn K (He.ga K x) z = some r ∧ r.isSome = (kvs.map Prod.fst).contains z := by
  by_cases h : z ∈ kvs.map Prod.fst
  · obtain ⟨q, hq, rfl⟩ := List.mem_map.mp h
    obtain ⟨u, h1, _⟩ := D.vals q hq
    exact ⟨some u, h1, by rw [List.contains_iff_mem.mpr h]; rfl⟩
  · obtain ⟨es, n, kd, hk⟩ := D.kd
    obtain ⟨h1, h2⟩ := keys_miss hk h
    refine ⟨none, ?_, ?_⟩
    · unfold PySem.W.nsIn
      rw [kd.at_]
      simp only [h1, h2]
      rfl
    · have : (kvs.map Prod.fst).contains z = false := by
        rw [Bool.eq_false_iff]
        exact fun q => h (List.contains_iff_mem.mp q)
      rw [this]; rfl
section
variable {X : Cx} {T : List (Addr × Str)} {W : WX} {F0 H0 : Hp}
/-! ### a def of which nothing is promised: the recursion's ground -/
theorem ok_bad {P : Program} {w : World} {K : PySem.W.Frag} {mg : Str → Option Value} {base : Heap} {T : List (Addr × Str)} {k : Nat} {x qual : Str} {params : Arguments} {body : List Stmt} {scope : Scope} {N ps : List Str} {n : Nat}
    (Fd : ∃ fd, FunD K x qual params body scope [] [] (He.ga K x) fd) (hm : mg x = some (.ref (He.ga K x))) (S : FnScope N ps scope) (hn : ps.length = n)
    (hb : ∀ fd, FunD K x qual params body scope [] [] (He.ga K x) fd → Binds K fd ps []) : OkD P w K mg base T (k + 1) x n (fun _ => .bad) := by
  obtain ⟨fd, Fd⟩ := Fd
  refine ⟨⟨fd, ps, Fd.ok S (fun vs H Q E h => ?_) fun cdv A outer s0 H vs Q E hr h => ?_, hb fd Fd⟩, Fd.kp, hm⟩
  · obtain ⟨F, ds, _, _, r, hl, _⟩ := h
    rw [r.length, hl, hn]
  · obtain ⟨F, ds, _, _, _, _, h⟩ := h
    exact h.elim
end
end DN
/-! lists of the frame's own: made, appended to, stored into, read, frozen -/
namespace DN
open PySem PySem.Spec PyProof.Rows L2
open LamX (Tabs ExtN)

def D.flat : D → Bool
  | .non => true
  | .bl _ => true
  | .int _ => true
  | .str _ => true
  | _ => false
def flatR : Res D → Res D
  | .ok d => if d.flat = true then .ok d else .bad
  | r => r
def frz (i : Nat) (ρ : Rho) : Rho := match ρ[i]? with
  | some (.o (.lst ds)) => ρ.set i (.z (.lst ds))
  | _ => ρ
def bor (i : Nat) (f : Rho → Res D) : Rho → Res D := fun ρ => flatR (f (frz i ρ))
def borQ (i : Nat) (f : Rho → Res Bool) : Rho → Res Bool := fun ρ => f (frz i ρ)
theorem Rp.flat {K : PySem.W.Frag} {F F' : Hp} {v : V} {d : D} (h : Rp K F v d) (e : d.flat = true) : Rp K F' v d := by
  cases h <;> first | exact .non | exact .bl _ | exact .int _ | exact .str _ | cases e
section
variable {K : PySem.W.Frag} {T : List (Addr × Str)} {W : WX} {F0 H0 F H : Hp} {σ : L2.St} {ρ : Rho}
theorem At.frz (a : At K T F H σ ρ) (i : Nat) : ∃ F1, At K T F1 H σ (frz i ρ) ∧ Sub F F1 ∧ (∀ F' H', Nx T F1 H F' H' → Nx T F H F H') ∧ (∀ F0 H0, Nx T F0 H0 F H → Ow H0 σ ρ → Nx T F0 H0 F1 H ∧ Ow H0 σ (frz i ρ)) := by
  have triv : ∃ F1, At K T F1 H σ ρ ∧ Sub F F1 ∧ (∀ F' H', Nx T F1 H F' H' → Nx T F H F H') ∧ (∀ F0 H0, Nx T F0 H0 F H → Ow H0 σ ρ → Nx T F0 H0 F1 H ∧ Ow H0 σ ρ) :=
    ⟨F, a, Sub.refl F, fun F' H' n => ⟨Sub.refl F, ⟨n.f.trans n.z.sub, a.z.nt⟩, n.h, fun _ _ h => .inl h, n.tab⟩, fun F0 H0 n o => ⟨n, o⟩⟩
  unfold DN.frz
  split
  · rename_i ds e
    obtain ⟨p, hs, hp, xs, hx, rx⟩ := a.r.o i _ e
    have sb : Sub F (upd F p (.lst xs)) := fun b o eb => by
      rw [upd_ne fun z => by rw [z, hp] at eb; cases eb]; exact eb
    have z1 : Fz (upd F p (.lst xs)) H := ⟨fun b o eb => by
      by_cases hb : b = p
      · subst hb; rw [upd_same] at eb; rw [← eb]; exact hx
      · rw [upd_ne hb] at eb; exact a.z.sub _ _ eb, fun b ps eb => by
      by_cases hb : b = p
      · subst hb; rw [upd_same] at eb; cases eb
      · rw [upd_ne hb] at eb; exact a.z.nt _ _ eb⟩
    have il : i < ρ.length := (List.getElem?_eq_some_iff.mp e).1
    refine ⟨upd F p (.lst xs), ⟨z1, a.t, ?_⟩, sb, fun F' H' n => ⟨Sub.refl F, ⟨sb.trans (n.f.trans n.z.sub), a.z.nt⟩, n.h, fun _ _ h => .inl h, n.tab⟩, fun F0 H0 n o => ⟨⟨n.f.trans sb, z1, n.h, fun b u eb => ?_, n.tab⟩, fun j d q h1 h2 => ?_⟩⟩
    · refine ⟨by rw [List.length_set]; exact a.r.len, fun j d hj => ?_, fun j d hj => ?_, fun j k d1 d2 q1 q2 hn h1 h2 h3 h4 => ?_⟩
      · rw [List.getElem?_set] at hj
        by_cases hij : i = j
        · subst hij
          rw [if_pos rfl, if_pos il] at hj
          cases hj
          exact ⟨_, hs, .lst upd_same (rx.mono sb)⟩
        · rw [if_neg hij] at hj
          obtain ⟨v, h1, h2⟩ := a.r.z j d hj
          exact ⟨v, h1, h2.mono sb⟩
      · rw [List.getElem?_set] at hj
        by_cases hij : i = j
        · subst hij
          rw [if_pos rfl, if_pos il] at hj
          cases hj
        · rw [if_neg hij] at hj
          obtain ⟨q, h1, h2, h3⟩ := a.r.o j d hj
          have hne : p ≠ q := a.r.ne i j _ _ p q hij e hj hs h1
          refine ⟨q, h1, by rw [upd_ne (Ne.symm hne)]; exact h2, ?_⟩
          cases d with
          | lst es => obtain ⟨ys, k1, k2⟩ := h3; exact ⟨ys, k1, k2.mono sb⟩
          | dK _ => exact h3
          | dT _ => exact h3
          | dic _ _ _ _ => obtain ⟨es, k1, k2⟩ := h3; exact ⟨es, k1, k2.mono sb⟩
          | ins _ _ _ => obtain ⟨dx, ws, k1, k2⟩ := h3; exact ⟨dx, ws, k1, k2.mono sb⟩
          | _ => exact h3.elim
      · rw [List.getElem?_set] at h1 h2
        have fj : i ≠ j := fun z => by rw [if_pos z] at h1; split at h1 <;> cases h1
        have fk : i ≠ k := fun z => by rw [if_pos z] at h2; split at h2 <;> cases h2
        rw [if_neg fj] at h1
        rw [if_neg fk] at h2
        exact a.r.ne j k d1 d2 q1 q2 hn h1 h2 h3 h4
    · by_cases hb : b = p
      · subst hb
        exact .inr (o i _ b e hs)
      · rw [upd_ne hb] at eb; exact n.new _ _ eb
    · rw [List.getElem?_set] at h1
      by_cases hij : i = j
      · subst hij
        rw [if_pos rfl, if_pos il] at h1
        cases h1
      · rw [if_neg hij] at h1
        exact o j d q h1 h2
  · exact triv
end
section
variable {X : Cx} {T : List (Addr × Str)} {W : WX} {F0 H0 : Hp}
def sfrz (i : Nat) (s : Rho → SR) : Rho → SR := fun ρ => s (frz i ρ)
theorem s_frz {st : List Stmt} {s : Rho → SR} (i : Nat) (h : DSs X T W F0 H0 st s) : DSs X T W F0 H0 st (sfrz i s) := h.to fun Z σ H ⟨ρ, F, g, q⟩ => by
  obtain ⟨F1, a1, sb, _, fw⟩ := g.at_.frz i
  obtain ⟨n1, o1⟩ := fw F0 H0 g.nx g.ow
  exact ⟨DN.frz i ρ, F1, ⟨a1, n1, o1⟩, aftS.mono sb q⟩
end

/-! ### made -/
def aftO (K : PySem.W.Frag) (T : List (Addr × Str)) (W : WX) (σ : L2.St) (F H : Hp) (Q : V → Hp → Prop) : Res D → Prop
  | .ok (.lst ds) => ∀ p vs F' H', Nx T F H F' H' → F' p = none → H' p = some (.lst vs) → RpAll K F' vs ds → (∀ o, H p = some o → ∃ ps, o = .tbl ps) → Q (.ref p) H'
  | .ok _ => False
  | .ex n => ∀ F' H', Nx T F H F' H' → W (.ref (He.ga K n)) none σ H'
  | .bad => False
def tO (K : PySem.W.Frag) (T : List (Addr × Str)) (W : WX) (f : Rho → Res D) : TE := fun σ H Q => ∃ ρ F, At K T F H σ ρ ∧ aftO K T W σ F H Q (f ρ)
abbrev DOw (X : Cx) (T : List (Addr × Str)) (W : WX) (e : Expr) (f : Rho → Res D) : Prop := PE X e (tO X.K T W f)
def sown (f : Rho → Res D) (i : Nat) : Rho → SR := fun ρ => bindS (f ρ) ρ fun d => match d with
  | .lst ds => .nx (ρ.set i (.o (.lst ds)))
  | _ => .bad
section
variable {K : PySem.W.Frag} {T : List (Addr × Str)} {W : WX} {F0 H0 F H : Hp} {σ : L2.St} {ρ : Rho}
theorem frn {p : Addr} (z : Fz F H) (hp : H p = none) : F p = none := by
  cases q : F p with
  | none => rfl
  | some o => have := z.sub _ _ q; rw [hp] at this; cases this
theorem Rl.setO {i : Nat} {p : Addr} {vs : List V} {ds : List D} (r : Rl K F H σ ρ) (hp : F p = none) (hx : H p = some (.lst vs)) (rx : RpAll K F vs ds) (fr : ∀ (j : Nat) (d : D) (q : Addr), ρ[j]? = some (En.o d) → σ[j]? = some (some (V.ref q)) → q ≠ p) :
    Rl K F H (σ.set i (some (.ref p))) (ρ.set i (.o (.lst ds))) where
  len := by rw [List.length_set, List.length_set]; exact r.len
  z := fun j e hj => by
    rw [List.getElem?_set] at hj ⊢
    by_cases hij : i = j
    · subst hij
      rw [if_pos rfl] at hj
      split at hj <;> cases hj
    · rw [if_neg hij] at hj ⊢
      exact r.z j e hj
  o := fun j e hj => by
    rw [List.getElem?_set] at hj ⊢
    by_cases hij : i = j
    · subst hij
      rw [if_pos rfl] at hj ⊢
      by_cases hl : i < ρ.length
      · rw [if_pos hl] at hj
        rw [if_pos (by rw [r.len]; exact hl)]
        cases hj
        exact ⟨p, rfl, hp, vs, hx, rx⟩
      · rw [if_neg hl] at hj; cases hj
    · rw [if_neg hij] at hj ⊢
      exact r.o j e hj
  ne := fun j k a b q1 q2 hn h1 h2 h3 h4 => by
    rw [List.getElem?_set] at h1 h2 h3 h4
    by_cases fj : i = j
    · have fk : i ≠ k := fun z => hn (fj.symm.trans z)
      rw [if_neg fk] at h2 h4
      rw [if_pos fj] at h3
      have : q1 = p := by split at h3 <;> cases h3; rfl
      rw [this]
      exact Ne.symm (fr k _ q2 h2 h4)
    · rw [if_neg fj] at h1 h3
      by_cases fk : i = k
      · rw [if_pos fk] at h4
        have : q2 = p := by split at h4 <;> cases h4; rfl
        rw [this]
        exact fr j _ q1 h1 h3
      · rw [if_neg fk] at h2 h4
        exact r.ne j k a b q1 q2 hn h1 h2 h3 h4
theorem Ow.setO {i : Nat} {p : Addr} {d : D} (o : Ow H0 σ ρ) (hp : ∀ o, H0 p = some o → ∃ ps, o = .tbl ps) : Ow H0 (σ.set i (some (.ref p))) (ρ.set i (.o d)) := fun j e q h1 h2 => by
  rw [List.getElem?_set] at h1 h2
  by_cases hij : i = j
  · rw [if_pos hij] at h2
    have : q = p := by split at h2 <;> cases h2; rfl
    rw [this]; exact hp
  · rw [if_neg hij] at h1 h2
    exact o j e q h1 h2
theorem ntL' {vs : List V} : ∀ ps, HO.lst vs ≠ .tbl ps := fun ps z => by cases z
/-- an own list made at p, bound to slot i -/
theorem Sg.own {F1 H1 : Hp} {i : Nat} {p : Addr} {vs : List V} {ds : List D} (g : Sg K T F0 H0 F H σ ρ) (n : Nx T F H F1 H1) (hp : F1 p = none) (hx : H1 p = some (.lst vs)) (rx : RpAll K F1 vs ds) (fr : ∀ o, H p = some o → ∃ ps, o = .tbl ps) :
    Sg K T F0 H0 F1 H1 (σ.set i (some (.ref p))) (ρ.set i (.o (.lst ds))) := by
  have g1 := g.step n
  refine ⟨⟨g1.at_.z, g1.at_.t, g1.at_.r.setO hp hx rx fun j d q h1 h2 e => ?_⟩, g1.nx, g1.ow.setO fun o ho => ?_⟩
  · obtain ⟨q', k1, k2, k3⟩ := g.at_.r.o j d h1
    rw [h2] at k1
    cases k1
    obtain ⟨o, k4, k5⟩ := k3.solid
    rw [e] at k4
    obtain ⟨ps, k6⟩ := fr o k4
    exact k5 ps k6
  · by_cases q : ∃ ps, o = .tbl ps
    · exact q
    · exact fr o (g.nx.h p o ho fun ps z => q ⟨ps, z⟩)
/-- the own list at slot i is changed -/
theorem Sg.putO {i : Nat} {p : Addr} {d : D} {xs ys : List V} {es : List D} (g : Sg K T F0 H0 F H σ ρ) (hi : ρ[i]? = some (.o d)) (hs : σ[i]? = some (some (.ref p))) (hx : H p = some (.lst xs)) (ry : RpAll K F ys es) :
    Sg K T F0 H0 F (upd H p (.lst ys)) σ (ρ.set i (.o (.lst es))) := by
  have il : i < ρ.length := (List.getElem?_eq_some_iff.mp hi).1
  have hp : F p = none := by
    obtain ⟨q, h1, h2, h3⟩ := g.at_.r.o i d hi
    rw [hs] at h1; cases h1; exact h2
  have z1 : Fz F (upd H p (.lst ys)) := ⟨fun b o eb => by
    rw [upd_ne fun z => by rw [z, hp] at eb; cases eb]; exact g.at_.z.sub _ _ eb, g.at_.z.nt⟩
  refine ⟨⟨z1, tabs_upd g.at_.t hx, ?_⟩, ⟨g.nx.f, z1, fun b o eb no => ?_, g.nx.new, fun t => tabs_upd (g.nx.tab t) hx⟩, fun j e q h1 h2 => ?_⟩
  · refine ⟨by rw [List.length_set]; exact g.at_.r.len, fun j e hj => ?_, fun j e hj => ?_, fun j k a b q1 q2 hn h1 h2 h3 h4 => ?_⟩
    · rw [List.getElem?_set] at hj
      by_cases hij : i = j
      · rw [if_pos hij] at hj
        split at hj <;> cases hj
      · rw [if_neg hij] at hj
        exact g.at_.r.z j e hj
    · rw [List.getElem?_set] at hj
      by_cases hij : i = j
      · subst hij
        rw [if_pos rfl, if_pos il] at hj
        cases hj
        exact ⟨p, hs, hp, ys, upd_same, ry⟩
      · rw [if_neg hij] at hj
        obtain ⟨q, h1, h2, h3⟩ := g.at_.r.o j e hj
        have hne : p ≠ q := g.at_.r.ne i j _ _ p q hij hi hj hs h1
        refine ⟨q, h1, h2, ?_⟩
        cases e with
        | lst es => obtain ⟨zs, k1, k2⟩ := h3; exact ⟨zs, by rw [upd_ne (Ne.symm hne)]; exact k1, k2⟩
        | dK _ => show upd H p _ q = _; rw [upd_ne (Ne.symm hne)]; exact h3
        | dT _ => show upd H p _ q = _; rw [upd_ne (Ne.symm hne)]; exact h3
        | dic _ _ _ _ => obtain ⟨es, k1, k2⟩ := h3; exact ⟨es, by rw [upd_ne (Ne.symm hne)]; exact k1, k2⟩
        | ins _ _ _ => obtain ⟨dx, ws, k1, k2⟩ := h3; exact ⟨dx, ws, by rw [upd_ne (Ne.symm hne)]; exact k1, k2⟩
        | _ => exact h3.elim
    · have o1 : ∀ j e, (ρ.set i (.o (.lst es)))[j]? = some (En.o e) → ∃ e', ρ[j]? = some (En.o e') := fun j e h => by
        rw [List.getElem?_set] at h
        by_cases hij : i = j
        · subst hij; exact ⟨d, hi⟩
        · rw [if_neg hij] at h; exact ⟨e, h⟩
      obtain ⟨a', h1⟩ := o1 j a h1
      obtain ⟨b', h2⟩ := o1 k b h2
      exact g.at_.r.ne j k a' b' q1 q2 hn h1 h2 h3 h4
  · rw [upd_ne fun z => by
      subst z
      obtain ⟨ps, k⟩ := g.ow i d b hi hs o eb
      exact no ps k]
    exact g.nx.h _ _ eb no
  · rw [List.getElem?_set] at h1
    by_cases hij : i = j
    · subst hij
      exact g.ow i d q hi h2
    · rw [if_neg hij] at h1
      exact g.ow j e q h1 h2
end
section
variable {X : Cx} {T : List (Addr × Str)} {W : WX} {F0 H0 : Hp}
theorem sown_to {f : Rho → Res D} {i : Nat} {K : PySem.W.Frag} {Z : Ends} {σ : L2.St} {H : Hp} (h : tS K T W F0 H0 (sown f i) Z σ H) : tAsg (tO K T W f) (gName i) Z σ H := by
  obtain ⟨ρ, F, g, h⟩ := h
  refine ⟨ρ, F, g.at_, ?_⟩
  unfold sown at h
  cases e : f ρ with
  | ok d =>
    rw [e] at h
    cases d with
    | lst ds =>
      have h : ∀ σ' F' H', Sg K T F0 H0 F' H' σ' (ρ.set i (.o (.lst ds))) → Sub F F' → Z.nx σ' H' := h
      exact fun p vs F1 H1 n hp hx rx fr => h _ F1 H1 (g.own n hp hx rx fr) n.f
    | _ => exact h.elim
  | ex m => rw [e] at h; exact fun F' H' n => h σ F' H' (g.step n) n.f
  | bad => rw [e] at h; exact h.elim
theorem s_own {tg e : Expr} {pos : Pos} {f : Rho → Res D} {i : Nat} (he : DOw X T W e f) (hg : PG X tg (gName i)) (hs : swapsWithSole [tg] e pos.line X.env = pure false := by rfl) (hw : swappedStores [tg] e X.env = pure none := by rfl)
    (h1 : (assignEach [tg] X.env).map (·.2) = [assign tg X.env] := by rfl) : DS X T W F0 H0 (.Assign [tg] e pos) (sown f i) :=
  (ps_asg he hg hs hw h1).to fun Z σ H h => sown_to h
theorem back_tbl {H H2 : Hp} {p : Addr} (n : ExtN H H2) (fr : ∀ o, H2 p = some o → ∃ ps, o = .tbl ps) : ∀ o, H p = some o → ∃ ps, o = .tbl ps := fun o ho => by
  by_cases q : ∃ ps, o = .tbl ps
  · exact q
  · exact fr o (n p o ho fun ps z => q ⟨ps, z⟩)
theorem aftO.bind {K : PySem.W.Frag} {σ : L2.St} {F H : Hp} {α β : Type} {R : Hp → α → β → Prop} {Q : V → Hp → Prop} {r : Res β} {k : β → Res D} (h : aftO K T W σ F H Q (r.bind k)) :
    aft R K T W σ F H (fun a H1 => ∃ b F1, r = .ok b ∧ Nx T F H F1 H1 ∧ R F1 a b ∧ aftO K T W σ F1 H1 Q (k b)) r := by
  cases r with
  | ok b =>
    refine fun a F2 H2 n ra => ⟨b, F2, rfl, n, ra, ?_⟩
    have h : aftO K T W σ F H Q (k b) := h
    cases e : k b with
    | ok d =>
      rw [e] at h
      cases d with
      | lst ds => exact fun p vs F' H' n2 hp hx rx fr => h p vs F' H' (n.trans n2) hp hx rx (back_tbl n.h fr)
      | _ => exact h.elim
    | ex m => rw [e] at h; exact fun F' H' n2 => h F' H' (n.trans n2)
    | bad => rw [e] at h; exact h.elim
  | ex m => exact h
  | bad => exact h
/-! ### appended, stored, read -/
/-- the own list at slot i, if there is one -/
theorem own_at {K : PySem.W.Frag} {F H : Hp} {σ : L2.St} {ρ : Rho} {i : Nat} {ds : List D} (r : Rl K F H σ ρ) (e : ρ[i]? = some (.o (.lst ds))) : ∃ p xs, σ[i]? = some (some (.ref p)) ∧ F p = none ∧ H p = some (.lst xs) ∧ RpAll K F xs ds := by
  obtain ⟨p, h1, h2, xs, h3, h4⟩ := r.o i _ e
  exact ⟨p, xs, h1, h2, h3, h4⟩
def ownR (i : Nat) (ρ : Rho) : Res (List D) := match ρ[i]? with
  | some (.o (.lst ds)) => .ok ds
  | _ => .bad
theorem ownR_ok {i : Nat} {ρ : Rho} {ds : List D} (h : ownR i ρ = .ok ds) : ρ[i]? = some (.o (.lst ds)) := by
  unfold ownR at h
  split at h
  · rename_i e; cases h; exact e
  · cases h
def sapp (i : Nat) (f : Rho → Res D) : Rho → SR := fun ρ => bindS (ownR i ρ) ρ fun ds => bindS (f ρ) ρ fun d => if ds.length < sizeLine then .nx (ρ.set i (.o (.lst (ds ++ [d])))) else .bad
theorem RpAll.set {K : PySem.W.Frag} {F : Hp} : ∀ {vs : List V} {ds : List D} (n : Nat) {v : V} {d : D}, RpAll K F vs ds → Rp K F v d → RpAll K F (vs.set n v) (ds.set n d)
  | _, _, _, _, _, .nil, _ => .nil
  | _, _, 0, _, _, .cons _ t, r => .cons r t
  | _, _, n + 1, _, _, .cons h t, r => .cons h (RpAll.set n t r)
def sput (i : Nat) (fk fe : Rho → Res D) : Rho → SR := fun ρ => bindS (fe ρ) ρ fun d => bindS (ownR i ρ) ρ fun ds => bindS (fk ρ) ρ fun k => match k with
  | .int j => (match ixN ds.length j with
    | some m => .nx (ρ.set i (.o (.lst (ds.set m d))))
    | none => .bad)
  | _ => .bad
theorem s_put {x : Str} {i : Nat} {k e : Expr} {p spos pos : Pos} {fk fe : Rho → Res D} (hv : PE X (.Name x p) (tVar i)) (hk : DE X T W k fk) (he : DE X T W e fe)
    (ha : ∀ v, assign (.Subscript (.Name x p) k spos) X.env v = (do
      let ov ← holding [v] (eval (.Name x p) X.env)
      let iv ← holding [v, ov] (eval k X.env)
      standAt spos
      holding [v, ov, iv] (setItem ov iv v)
      release [v, ov, iv] []) := by intro _; rfl)
    (hs : swapsWithSole [.Subscript (.Name x p) k spos] e pos.line X.env = pure false := by rfl) (hw : swappedStores [.Subscript (.Name x p) k spos] e X.env = pure none := by rfl)
    (h1 : (assignEach [.Subscript (.Name x p) k spos] X.env).map (·.2) = [assign (.Subscript (.Name x p) k spos) X.env] := by rfl) :
    DS X T W F0 H0 (.Assign [.Subscript (.Name x p) k spos] e pos) (sput i fk fe) :=
  (ps_asg he (pg_sub hv hk set_list ha) hs hw h1).to fun Z σ H ⟨ρ, F, g, h⟩ => by
    refine ⟨ρ, F, g.at_, (aftS.bind (R := Rp X.K) g h).imp fun d _ v F1 H1 _ _ q => ?_⟩
    obtain ⟨d', F2, _, n, g2, rv, q⟩ := q
    cases e : ownR i ρ with
    | bad => rw [e] at q; exact q.elim
    | ex m =>
      exfalso
      unfold ownR at e
      split at e <;> cases e
    | ok ds =>
      rw [e] at q
      have e := ownR_ok e
      obtain ⟨p, xs, h1, h2, h3, h4⟩ := own_at g2.at_.r e
      refine ⟨_, h1, ρ, F2, g2.at_, (aftS.bind (R := Rp X.K) g2 q).imp fun d _ w F3 H3 _ _ q => ?_⟩
      obtain ⟨k', F4, _, n2, g4, rw', q⟩ := q
      cases rw' with
      | int j =>
        have q : aftS X.K T W F0 H0 F4 Z (match ixN ds.length j with
          | some m => .nx (ρ.set i (.o (.lst (ds.set m d'))))
          | none => .bad) := q
        cases hm : ixN ds.length j with
        | none => rw [hm] at q; exact q.elim
        | some m =>
          rw [hm] at q
          have k3 : H3 p = some (.lst xs) := n2.keep h3 ntL'
          refine ⟨p, xs, j, m, rfl, rfl, k3, by rw [h4.length]; exact hm, ?_⟩
          exact q σ F4 _ (g4.putO e h1 k3 ((h4.mono n2.f).set m (rv.mono n2.f))) (Sub.refl F4)
      | _ => exact q.elim
def ixO (i : Nat) (fk : Rho → Res D) : Rho → Res D := fun ρ => (ownR i ρ).bind fun ds => (fk ρ).bind fun k => match k with
  | .int j => ofO (atI ds j)
  | _ => .bad
theorem e_ixO {x : Str} {i : Nat} {k : Expr} {p pos : Pos} {fk : Rho → Res D} (hv : PE X (.Name x p) (tVar i)) (hk : DE X T W k fk) (hs : PlainIx k := by exact fun _ _ => rfl) : DE X T W (.Subscript (.Name x p) k pos) (ixO i fk) :=
  (pe_ix ix_list hv hk hs).to fun σ H Q ⟨ρ, F, a, h⟩ => by
    unfold ixO at h
    cases e : ownR i ρ with
    | bad => rw [e] at h; exact h.elim
    | ex m =>
      exfalso
      unfold ownR at e
      split at e <;> cases e
    | ok ds =>
      rw [e] at h
      have e := ownR_ok e
      obtain ⟨p, xs, h1, h2, h3, h4⟩ := own_at a.r e
      refine ⟨_, h1, ρ, F, a, (aft.bind (R := Rp X.K) h).imp fun d _ w F3 H3 _ _ q => ?_⟩
      obtain ⟨k', F4, _, n2, rw', q⟩ := q
      cases rw' with
      | int j =>
        obtain ⟨z, hz, q⟩ := ofO_ok q
        obtain ⟨v, hv, rv⟩ := atI_get (h4.mono n2.f) hz
        have k3 : H3 p = some (.lst xs) := n2.keep h3 ntL'
        exact ⟨p, xs, j, v, rfl, rfl, SqL.of k3, hv, q v F4 H3 (Nx.refl n2.z) rv⟩
      | _ => exact q.elim
end
end DN
/-! comprehensions with any target; lists made so are own or frozen -/
namespace DN
open PySem PySem.Spec PyProof.Rows L2
open LamX (Tabs ExtN)

theorem At.wipe {K : PySem.W.Frag} {T : List (Addr × Str)} {F H : Hp} {σ : L2.St} {ρ : Rho} (a : At K T F H σ ρ) : ∀ vs : List Nat, At K T F H (L2.wipe σ vs) (wipeR ρ vs)
  | [] => a
  | v :: vs => ⟨a.z, a.t, (At.wipe a vs).r.wipe1⟩
/-! targets that touch the slots vs alone -/
section
variable {X : Cx} {T : List (Addr × Str)} {W : WX} {F0 H0 : Hp} {vs : List Nat}
end
section
variable {X : Cx} {T : List (Addr × Str)} {W : WX} {F0 H0 : Hp}
section
variable {j : Nat} {y : Str} {py : Pos} {elt tg iter : Expr} {ifs : List Expr} {scope : Scope} {own : List (Str × Nat)} {pos spos : Pos} {f : Rho → Res (List D)} {g : Tg} {t : Rho → Res Bool} {e : Rho → Res D}
end
end
end DN
/-! min, max and index of a list of ints; evaluation of own lists -/
namespace DN
open PySem PySem.Spec PyProof.Rows L2
open LamX (Tabs ExtN)

def intsD : List D → Option (List Int)
  | [] => some []
  | .int i :: r => (intsD r).map (i :: ·)
  | _ => none
theorem rp_ints {K : PySem.W.Frag} {F : Hp} : ∀ {vs : List V} {ds : List D} {ns : List Int}, RpAll K F vs ds → intsD ds = some ns → vs = ns.map V.int
  | _, _, _, .nil, e => by cases e; rfl
  | _, _, _, .cons h t, e => by
    cases h with
    | int i =>
      unfold intsD at e
      rename_i ds
      cases e2 : intsD ds with
      | none => rw [e2] at e; cases e
      | some ms =>
        rw [e2] at e
        cases e
        rw [rp_ints t e2]; rfl
    | _ => cases e
def maxLD : List D → Option D
  | [.lst ds] => (intsD ds).bind fun ns => ns.max?.map .int
  | _ => none
section
variable {X : Cx} {T : List (Addr × Str)} {W : WX} {F0 H0 : Hp}
theorem c_maxL (hc : X.calm = true) : CallR X (.builtin "max") (rDn X.K T maxLD) := by
  intro pins s σ H xs us Q I r h
  obtain ⟨F, ds, z, hz, rs, hG, q⟩ := h
  unfold maxLD at hG
  split at hG
  · rename_i ds
    obtain ⟨v, rfl, rv⟩ := all1 rs
    cases rv with
    | lst h1 r1 =>
      cases e : intsD ds with
      | none => rw [e] at hG; cases hG
      | some ns =>
        rw [e] at hG
        have hG : ns.max?.map D.int = some z := hG
        cases e2 : ns.max? with
        | none => rw [e2] at hG; cases hG
        | some m =>
          rw [e2] at hG
          cases hG
          obtain ⟨k1, k2⟩ := List.max?_eq_some_iff.mp e2
          have ev := rp_ints r1 e
          subst ev
          refine cr_max hc pins s σ H _ us Q I r ⟨_, ns, rfl, SqL.of (hz.sub _ _ h1), ?_, fun m' hm hle => ?_⟩
          · cases ns with
            | nil => cases k1
            | cons _ _ => simp
          · have : m' = m := Int.le_antisymm (k2 m' hm) (hle m k1)
            subst this
            exact q _ F H (Nx.refl hz) (.int _)
  · cases hG
end
/-! ### evaluation -/
section
variable {ρ : Rho}
def ownRR (r : Res D) (ρ : Rho) (i : Nat) : SR := bindS r ρ fun d => match d with
  | .lst ds => .nx (ρ.set i (.o (.lst ds)))
  | _ => .bad
theorem sown_def {f : Rho → Res D} {i : Nat} : sown f i ρ = ownRR (f ρ) ρ i := rfl
theorem ownRR_ok {ds : List D} {i : Nat} : ownRR (.ok (.lst ds)) ρ i = .nx (ρ.set i (.o (.lst ds))) := rfl
theorem frz_lst {ds : List D} {r : Rho} : frz 0 (.o (.lst ds) :: r) = .z (.lst ds) :: r := rfl
theorem frz_z {d : D} {r : Rho} : frz 0 (.z d :: r) = .z d :: r := rfl
theorem frz_u {r : Rho} : frz 0 (.u :: r) = .u :: r := rfl
theorem frz_succ {i : Nat} {e : En} {r : Rho} : frz (i + 1) (e :: r) = e :: frz i r := by
  unfold frz
  rw [List.getElem?_cons_succ]
  cases r[i]? with
  | none => rfl
  | some en =>
    cases en with
    | u => rfl
    | z d => rfl
    | o d => cases d <;> rfl
theorem sfrz_def {i : Nat} {s : Rho → SR} : sfrz i s ρ = s (frz i ρ) := rfl
theorem bor_def {i : Nat} {f : Rho → Res D} : bor i f ρ = flatR (f (frz i ρ)) := rfl
theorem borQ_def {i : Nat} {f : Rho → Res Bool} : borQ i f ρ = f (frz i ρ) := rfl
theorem flat_i {i : Int} : flatR (.ok (.int i)) = .ok (.int i) := rfl
theorem flat_s {x : Str} : flatR (.ok (.str x)) = .ok (.str x) := rfl
theorem flat_b {b : Bool} : flatR (.ok (.bl b)) = .ok (.bl b) := rfl
theorem flat_n : flatR (.ok .non) = .ok .non := rfl
theorem own_zero {ds : List D} {r : Rho} : ownR 0 (.o (.lst ds) :: r) = .ok ds := rfl
theorem own_succ {i : Nat} {e : En} {r : Rho} : ownR (i + 1) (e :: r) = ownR i r := rfl
def appRR (ds : Res (List D)) (r : Res D) (ρ : Rho) (i : Nat) : SR := bindS ds ρ fun ds => bindS r ρ fun d => if ds.length < sizeLine then .nx (ρ.set i (.o (.lst (ds ++ [d])))) else .bad
theorem sapp_def {i : Nat} {f : Rho → Res D} : sapp i f ρ = appRR (ownR i ρ) (f ρ) ρ i := rfl
def putRR (v : Res D) (ds : Res (List D)) (k : Res D) (ρ : Rho) (i : Nat) : SR := bindS v ρ fun d => bindS ds ρ fun ds => bindS k ρ fun k => match k with
  | .int j => (match ixN ds.length j with
    | some m => .nx (ρ.set i (.o (.lst (ds.set m d))))
    | none => .bad)
  | _ => .bad
theorem sput_def {i : Nat} {f g : Rho → Res D} : sput i f g ρ = putRR (g ρ) (ownR i ρ) (f ρ) ρ i := rfl
def ixRR (ds : Res (List D)) (k : Res D) : Res D := ds.bind fun ds => k.bind fun k => match k with
  | .int j => ofO (atI ds j)
  | _ => .bad
theorem ixO_def {i : Nat} {f : Rho → Res D} : ixO i f ρ = ixRR (ownR i ρ) (f ρ) := rfl
end
end DN
/-! list(x) as an own list -/
namespace DN
open PySem PySem.Spec PyProof.Rows L2
open LamX (Tabs ExtN)
def rO (K : PySem.W.Frag) (T : List (Addr × Str)) (G : List D → Option D) : List V → Hp → VK → Prop := fun xs H Q => ∃ F ds es, Fz F H ∧ RpAll K F xs ds ∧ G ds = some (.lst es) ∧ ∀ p vs F' H', Nx T F H F' H' → F' p = none → H' p = some (.lst vs) → RpAll K F' vs es → (∀ o, H p = some o → ∃ ps, o = .tbl ps) → Q (.ref p) H'
def listO : List D → Option D
  | [.lst xs] => some (.lst xs)
  | [.tup xs] => some (.lst xs)
  | _ => none
section
variable {X : Cx} {T : List (Addr × Str)} {W : WX}
theorem c_listO : CallR X (.type "list") (rO X.K T listO) := by
  intro pins s σ H xs us Q I r h
  obtain ⟨F, ds, es, hz, rs, hG, q⟩ := h
  unfold listO at hG
  split at hG
  · obtain ⟨v, rfl, rv⟩ := all1 rs
    cases hG
    cases rv with
    | lst h1 r1 => exact call_list_of pins s σ H _ us Q I r ⟨_, _, rfl, .inl (SqL.of (hz.sub _ _ h1)), fun p hp => q p _ F _ (Nx.lay hz hp) (frn hz hp) upd_same r1 fun o ho => by rw [hp] at ho; cases ho⟩
  · obtain ⟨v, rfl, rv⟩ := all1 rs
    cases hG
    cases rv with
    | tup h1 r1 => exact call_list_of pins s σ H _ us Q I r ⟨_, _, rfl, .inr (hz.sub.st h1), fun p hp => q p _ F _ (Nx.lay hz hp) (frn hz hp) upd_same r1 fun o ho => by rw [hp] at ho; cases ho⟩
  · cases hG
theorem o_list {e : Expr} {p pos : Pos} {f : Rho → Res (List D)} (hg : Gl X "list") (hm : X.mg "list" = none) (hv : bootBuiltins "list" = some (.type "list")) (ha : DA X T W [e] f)
    (hpl : starEach [e] X.env = (false, eval e X.env) :: starEach [] X.env := by rfl) (hpl2 : (backTo pos (starEach [] X.env)).any (·.1) = false := by rfl) : DOw X T W (.Call (.Name "list" p) [e] [] pos) (cal listO f) :=
  (pe_callTy (c_listO (T := T)) hg hm hv ha (by decide) (by decide) hpl hpl2).to fun σ H Q ⟨ρ, F, a, h⟩ => by
    refine ⟨ρ, F, a, (aftO.bind (R := RpAll X.K) h).imp fun ds _ vs F1 H1 _ _ q => ?_⟩
    obtain ⟨ds', F2, _, n, rs, q⟩ := q
    cases e : listO ds' with
    | none => rw [e] at q; exact q.elim
    | some z =>
      rw [e] at q
      have : ∃ es, z = .lst es := by
        unfold listO at e
        split at e <;> cases e <;> exact ⟨_, rfl⟩
      obtain ⟨es, rfl⟩ := this
      exact ⟨F2, ds', es, n.z, rs, e, q⟩
end
end DN
/-! sorted of a list of texts -/
namespace DN
open PySem PySem.Spec PyProof.Rows L2
open LamX (Tabs ExtN)
def leS (a b : Str) : Bool := !ltCps b.cps.toList a.cps.toList
theorem leS_iff {a b : Str} : leS a b = true ↔ a.cps.toList ≤ b.cps.toList := by
  unfold leS
  rw [ltCps_eq]
  constructor
  · intro h
    have : ¬ (b.cps.toList < a.cps.toList) := by simpa using h
    exact this
  · intro h
    have : ¬ (b.cps.toList < a.cps.toList) := h
    simpa using this
theorem leS_trans (a b c : Str) (h : leS a b = true) (h2 : leS b c = true) : leS a c = true := by
  rw [leS_iff] at *
  exact List.le_trans h h2
theorem leS_total (a b : Str) : (leS a b || leS b a) = true := by
  rw [Bool.or_eq_true, leS_iff, leS_iff]
  exact List.le_total _ _
theorem leS_anti {a b : Str} (h : leS a b = true) (h2 : leS b a = true) : a = b := by
  rw [leS_iff] at *
  have e : a.cps.toList = b.cps.toList := List.le_antisymm h h2
  obtain ⟨⟨x⟩⟩ := a
  obtain ⟨⟨y⟩⟩ := b
  simp only at e
  rw [e]
theorem rising_pw : ∀ (p : Str) (l : List Str), risingS p l = true → (p :: l).Pairwise (fun a b => leS a b = true)
  | p, [], _ => by simp
  | p, x :: r, h => by
    have h : (!ltCps x.cps.toList p.cps.toList && risingS x r) = true := h
    rw [Bool.and_eq_true] at h
    have ih := rising_pw x r h.2
    have hx : leS p x = true := h.1
    refine List.pairwise_cons.mpr ⟨fun y hy => ?_, ih⟩
    rcases List.mem_cons.mp hy with rfl | hy
    · exact hx
    · exact leS_trans _ _ _ hx (List.rel_of_pairwise_cons ih hy)
theorem sorted_pw : ∀ (l : List Str), sortedS l = true → l.Pairwise (fun a b => leS a b = true)
  | [], _ => .nil
  | x :: r, h => rising_pw x r h
def sortS (l : List Str) : List Str := l.mergeSort leS
theorem sortS_uniq {a b : List Str} (p : a.Perm b) (h : sortedS a = true) : a = sortS b :=
  List.Perm.eq_of_pairwise (fun x y _ _ h1 h2 => leS_anti h1 h2) (sorted_pw a h) (List.pairwise_mergeSort leS_trans leS_total b) (p.trans (List.mergeSort_perm b leS).symm)
theorem sortS_perm {a b : List Str} (p : a.Perm b) : sortS a = sortS b :=
  List.Perm.eq_of_pairwise (fun x y _ _ h1 h2 => leS_anti h1 h2) (List.pairwise_mergeSort leS_trans leS_total a) (List.pairwise_mergeSort leS_trans leS_total b) (((List.mergeSort_perm a leS).trans p).trans (List.mergeSort_perm b leS).symm)
def strsOf : List D → Option (List Str)
  | [] => some []
  | .str x :: r => (strsOf r).map (x :: ·)
  | _ => none
theorem strsOf_map : ∀ (l : List Str), strsOf (l.map D.str) = some l
  | [] => rfl
  | x :: r => by
    show (strsOf (r.map D.str)).map (x :: ·) = _
    rw [strsOf_map r]
    rfl
theorem rp_strsOf {K : PySem.W.Frag} {F : Hp} : ∀ {ds : List D} {xs : List V} {ys : List Str}, RpAll K F xs ds → strsOf ds = some ys → xs = ys.map V.str
  | [], _, _, .nil, h => by cases h; rfl
  | .str x :: r, _, _, .cons h t, e => by
    have e : (strsOf r).map (x :: ·) = some _ := e
    cases q : strsOf r with
    | none => rw [q] at e; cases e
    | some z =>
      rw [q] at e
      cases e
      cases h
      rw [rp_strsOf t q]
      rfl
  | .non :: _, _, _, .cons h t, e => by cases e
  | .bl _ :: _, _, _, .cons h t, e => by cases e
  | .int _ :: _, _, _, .cons h t, e => by cases e
  | .lst _ :: _, _, _, .cons h t, e => by cases e
  | .tup _ :: _, _, _, .cons h t, e => by cases e
  | .fn _ :: _, _, _, .cons h t, e => by cases e
  | .ty _ :: _, _, _, .cons h t, e => by cases e
  | .dK _ :: _, _, _, .cons h t, e => by cases e
  | .dT _ :: _, _, _, .cons h t, e => by cases e
  | .arr _ :: _, _, _, .cons h t, e => by cases e
  | .pro _ :: _, _, _, .cons h t, e => by cases e
  | .dic _ _ _ _ :: _, _, _, .cons h t, e => by cases e
  | .adr _ :: _, _, _, .cons h t, e => by cases e
  | .ins _ _ _ :: _, _, _, .cons h t, e => by cases e
theorem rpa_strs {K : PySem.W.Frag} {F : Hp} : ∀ (ys : List Str), RpAll K F (ys.map V.str) (ys.map D.str)
  | [] => .nil
  | y :: r => .cons (.str y) (rpa_strs r)
def sortD : List D → Option D
  | [.lst ds] => (strsOf ds).bind fun xs => if xs.length < 64 then some (.lst ((sortS xs).map .str)) else none
  | _ => none
section
variable {X : Cx} {T : List (Addr × Str)} {W : WX}
theorem c_sort : CallR X (.builtin "sorted") (rDn X.K T sortD) := by
  intro pins s σ H xs us Q I r h
  obtain ⟨F, ds, z, hz, rs, hG, q⟩ := h
  unfold sortD at hG
  split at hG
  · rename_i ds
    obtain ⟨v, rfl, rv⟩ := all1 rs
    cases rv with
    | lst h1 r1 =>
      cases e : strsOf ds with
      | none => rw [e] at hG; cases hG
      | some ys =>
        rw [e] at hG
        have hG : (if ys.length < 64 then some (D.lst ((sortS ys).map .str)) else none) = some z := hG
        split at hG
        · rename_i h64
          cases hG
          have ev := rp_strsOf r1 e
          subst ev
          refine cr_sortedS pins s σ H _ us Q I r ⟨_, ys, rfl, SqL.of (hz.sub _ _ h1), h64, fun zs p hp hs hn => ?_⟩
          have e2 := sortS_uniq hp hs
          subst e2
          refine q _ _ _ (Nx.push hz hn fun ps z => by cases z) ?_
          exact .lst upd_same (rpa_strs _)
        · cases hG
  · cases hG
end
theorem bt_sorted : bootBuiltins "sorted" = some (.builtin "sorted") := by decide +kernel
theorem sort_ok {xs : List Str} (h : xs.length < 64) : sortD [.lst (xs.map .str)] = some (.lst ((sortS xs).map .str)) := by
  show (strsOf (xs.map .str)).bind _ = _
  rw [strsOf_map]
  show (if xs.length < 64 then some (D.lst ((sortS xs).map .str)) else none) = _
  rw [if_pos h]
end DN
/-! tuples of texts whose object is known: tuple(list), len, [], in, index, + -/
namespace DN
open PySem PySem.Spec PyProof.Rows L2
open LamX (Tabs ExtN)
section
variable {X : Cx} {T : List (Addr × Str)} {W : WX}
/-! a method of a tuple whose object is known -/
variable {o e : Expr} {es : List Expr} {to : TE} {t : TA} {name : Str} {apos cpos : Pos} {id : String} {r : V → List V → Hp → VK → Prop}
end
end DN
/-! str.replace: rules where a token is out -/
namespace DN
open PySem PySem.Spec PyProof.Rows L2
open LamX (Tabs ExtN)
section
variable {X : Cx} {T : List (Addr × Str)} {W : WX} {F0 H0 : Hp}
end
end DN
/-! zip of two lists, of two tuples -/
namespace DN
open PySem PySem.Spec PyProof.Rows L2
open LamX (Tabs ExtN)
open RZ (ItzT iZipA pi_zipA)
section
variable {X : Cx} {T : List (Addr × Str)} {W : WX}
end
end DN
/-! x.replace(y, z, 1); statements behind which a token is out -/
namespace PySem
open Builtin Builtin.Str
section
variable {prog : Program} {w : World} {A : Around} {E : Value → Shared → Prop} {s : Shared} {x y z : Str} {t u v c : Tok} {Q : Value → Shared → Prop}
end
end PySem
namespace DN
open PySem PySem.Spec PyProof.Rows L2
open LamX (Tabs ExtN)
section
variable {X : Cx} {T : List (Addr × Str)} {W : WX} {F0 H0 : Hp}
end
end DN
/-! DN25: repr of nested tuples; a law whose body is read under the outermost call alone (no repr is under way there). -/
namespace DN
open PySem PySem.Spec PyProof.Rows L2
open LamX (Tabs ExtN TabB)

section
variable {X : Cx} {T : List (Addr × Str)}
end
/-! ### a law's def, read under the outermost call -/
end DN
/-! dicts of the frame's own whose keys are nested tuples -/
namespace DN
open PySem PySem.Spec PyProof.Rows L2
open LamX (Tabs ExtN)

section
variable {X : Cx} {pins : List (Addr × Obj)} {σ : L2.St} {F H : Hp} {s : Shared}
end
/-! ### looked up, stored -/
section
variable {K : PySem.W.Frag} {F : Hp} {es : List (NestedKey × Addr × V)} {ks vs : List D} {xs : List (NestedKey × Addr × Value)} {n : NestedKey}
end
/-! ### the operations, by the heap -/
section
variable {X : Cx}
theorem DicR.length {K : PySem.W.Frag} {F : Hp} {es : List (NestedKey × Addr × V)} {ks vs : List D} (r : DicR K F es ks vs) : es.length = ks.length := by
  induction r with
  | nil => rfl
  | cons _ _ _ _ _ ih => rw [List.length_cons, List.length_cons, ih]
end
/-! ### no dict is a code object -/
section
variable {K : PySem.W.Frag} {T : List (Addr × Str)} {W : WX} {F0 H0 F H : Hp} {σ : L2.St} {ρ : Rho}
end
/-! ### by data -/
section
variable {X : Cx} {T : List (Addr × Str)} {W : WX} {F0 H0 : Hp}
end
end DN
/-! known tuples of texts: written ones, + -/
namespace DN
open PySem PySem.Spec PyProof.Rows L2
open LamX (Tabs ExtN)
section
variable {X : Cx} {T : List (Addr × Str)} {W : WX}
end
end DN
namespace LW
open PySem PySem.Spec PyProof.Rows L2 DN
open TL (numL numL_lt numL_step numL_digits numL_ne tl_num)

/-! ### figures of whole numbers -/
def figs (n : Nat) : Nat := (numL n).length
end LW
namespace LW
open PySem PySem.Spec PyProof.Rows L2 DN
open TL (numL numL_lt numL_step numL_digits numL_ne tl_num)
/-! ### texts -/
end LW
namespace LW
open PySem PySem.Spec PyProof.Rows L2 DN
open TL (numL numL_lt numL_step numL_digits numL_ne tl_num)
/-! ### numbers' texts -/
def S (l : List Nat) : Str := ⟨l.toArray⟩
end LW
namespace LW
open PySem PySem.Spec PyProof.Rows L2 DN
/-! ### rounding, plainly -/
inductive Hw where | nought | more | even | away
  deriving DecidableEq
inductive Mn where | even | away | nought | up | down
  deriving DecidableEq
def Hw.s : Hw → Str
  | .nought => "nought" | .more => "more" | .even => "even" | .away => "away"
def Mn.s : Mn → Str
  | .nought => "nought" | .up => "up" | .down => "down" | .even => "even" | .away => "away"
def Mn.by : Mn → Bool → Hw
  | .up, false => .more | .up, true => .nought | .down, false => .nought | .down, true => .more | .even, _ => .even | .away, _ => .away | .nought, _ => .nought
def sgZ (bl : Bool) : Int := 1 - 2 * (if bl = true then 1 else 0)
/-! the parts -/
end LW
namespace LW
open PySem PySem.Spec PyProof.Rows L2 DN
/-! ### rounding over the fractions -/
def T (p : Int) : Rat := (10 : Rat) ^ p
def vl (s : Int × Int) : Rat := (s.1 : Rat) * T s.2
/-! stripped -/
def NumOk (a b : Int) : Prop := (a = 0 ∧ b = 0) ∨ (a ≠ 0 ∧ a % 10 ≠ 0 ∧ a.natAbs < 10 ^ 8 ∧ -40 ≤ b + (figs a.natAbs : Int) - 1 ∧ b + (figs a.natAbs : Int) - 1 ≤ 40)
/-! the rounded value -/
theorem NumOk.neg {a b : Int} (h : NumOk a b) : NumOk (-a) b := by
  unfold NumOk at *
  rw [Int.natAbs_neg]
  omega
theorem NumOk.sg {a b : Int} (h : NumOk a b) (bl : Bool) : NumOk (sgZ bl * a) b := by
  cases bl with
  | false => rw [show sgZ false = 1 from rfl, Int.one_mul]; exact h
  | true => rw [show sgZ true = -1 from rfl, Int.neg_one_mul]; exact h.neg
/-! ### laws of rounding -/
/-! numbers are kept -/
/-! down and up -/
/-! as functions of the value -/
end LW
namespace LW
open PySem PySem.Spec PyProof.Rows L2 DN
/-! ### a sign sought in a text -/
end LW
namespace LW
open PySem PySem.Spec PyProof.Rows L2 DN
open TL (numL numL_lt numL_step numL_digits numL_ne tl_num)
open NumText (AllDigits digitsVal)
def N__law_cell_at : List Str := ["script", "k"]
def t1__law_cell_at : Rho → SR :=
  (sret (con (.int 0)))
def g__law_cell_at : Rho → SR :=
  sseq (sif (tst (bop ltD (var 1) (cal lenD (acons (var 0) anil)))) (sret (bop ixD (var 0) (var 1))) sskip) (t1__law_cell_at)
def d__law_cell_at (ds : List D) : Res D := runB 2 g__law_cell_at ds
theorem v__law_cell_at {a0 a1 : D} : d__law_cell_at [a0, a1] = finR (g__law_cell_at [.z a0, .z a1]) := runB_eq rfl
def N__law_mixed : List Str := ["script", "k", "drawn"]
def t1__law_mixed : Rho → SR :=
  (sret (bop modD (bop addD (bop addD (bop mulD (var 2) (var 2)) (bop mulD (con (.int 7)) (var 2))) (var 1)) (con (.int 2147483629))))
def g__law_mixed : Rho → SR :=
  sseq (sasg (bop modD (bop mulD (bop addD (bop addD (callD 2 d__law_cell_at (acons (var 0) (acons (var 1) anil))) (bop mulD (con (.int 7919)) (var 1))) (con (.int 1))) (con (.int 48271))) (con (.int 2147483647))) (gn 2)) (t1__law_mixed)
def d__law_mixed (ds : List D) : Res D := runB 3 g__law_mixed ds
theorem v__law_mixed {a0 a1 : D} : d__law_mixed [a0, a1] = finR (g__law_mixed [.z a0, .z a1, .u]) := runB_eq rfl
def N__law_drawn : List Str := ["number", "k", "drawn"]
def t1__law_drawn : Rho → SR :=
  (sret (bop modD (bop addD (bop addD (bop mulD (var 2) (var 2)) (bop mulD (con (.int 3)) (var 2))) (var 1)) (con (.int 2147483629))))
def g__law_drawn : Rho → SR :=
  sseq (sasg (bop modD (bop mulD (bop addD (bop addD (var 0) (bop mulD (con (.int 104729)) (var 1))) (con (.int 17))) (con (.int 69621))) (con (.int 2147483647))) (gn 2)) (t1__law_drawn)
def d__law_drawn (ds : List D) : Res D := runB 3 g__law_drawn ds
theorem v__law_drawn {a0 a1 : D} : d__law_drawn [a0, a1] = finR (g__law_drawn [.z a0, .z a1, .u]) := runB_eq rfl
def N__law_setting : List Str := ["number", "high", "k"]
def e1__law_setting : Rho → Res D :=
  (bop subD (bop modD (bop divD (callD 2 d__law_drawn (acons (var 0) (acons (var 2) anil))) (con (.int 4))) (var 1)) (bop mulD (bop divD (var 1) (con (.int 2))) (cal intD (acons (bop neD (bop modD (var 0) (con (.int 4))) (con (.int 1))) anil))))
def t1__law_setting : Rho → SR :=
  (sret (cal tupD (acons (lcD (rng1 (acons (con (.int 7)) anil)) 2 yes e1__law_setting) anil)))
def g__law_setting : Rho → SR :=
  sseq (sasg (bop ixD (mkT (acons (con (.int 9)) (acons (con (.int 9)) (acons (con (.int 2000000)) (acons (con (.int 3)) anil))))) (bop modD (var 0) (con (.int 4)))) (gn 1)) (t1__law_setting)
def d__law_setting (ds : List D) : Res D := runB 3 g__law_setting ds
theorem v__law_setting {a0 : D} : d__law_setting [a0] = finR (g__law_setting [.z a0, .u, .u]) := runB_eq rfl
def N__law_done : List Str := ["row", "setting", "pile", "boxes", "word", "x", "y", "z", "t"]
def b1__law_done : Rho → SR :=
  (sseq (sasg (var 2) (gt 4 (gsc (gn 5) (gsc (gn 6) (gsc (gn 7) (gsc (gn 8) gsn))))))
    (sif (tst (bop inD (var 4) (mkT (acons (con (.str "plus")) (acons (con (.str "minus")) (acons (con (.str "times")) anil)))))) (sasg (mkL (acons (dixD ["plus", "minus", "times"] (acons (bop addD (var 6) (var 5)) (acons (bop subD (var 6) (var 5)) (acons (bop mulD (var 6) (var 5)) anil))) (var 4)) (acons (var 7) (acons (var 8) (acons (var 8) anil))))) (gn 2)) (sif (tst (bop eqD (var 4) (con (.str "sign")))) (sasg (mkL (acons (una negD (var 5)) (acons (var 6) (acons (var 7) (acons (var 8) anil))))) (gn 2)) (sif (tst (bop eqD (var 4) (con (.str "swap")))) (sasg (mkL (acons (var 6) (acons (var 5) (acons (var 7) (acons (var 8) anil))))) (gn 2)) (sif (tst (bop eqD (var 4) (con (.str "roll")))) (sasg (mkL (acons (var 6) (acons (var 7) (acons (var 8) (acons (var 5) anil))))) (gn 2)) (sif (tst (bop eqD (slc (var 4) pno (psm (con (.int 3)))) (con (.str "put")))) (sput 3 (cal intD (acons (bop ixD (var 4) (con (.int 3))) anil)) (var 5)) (sif (tst (bop eqD (slc (var 4) pno (psm (con (.int 3)))) (con (.str "get")))) (sasg (mkL (acons (ixO 3 (cal intD (acons (bop ixD (var 4) (con (.int 3))) anil))) (acons (var 5) (acons (var 6) (acons (var 7) anil))))) (gn 2)) (sif (tst (bop eqD (var 4) (con (.str "enter")))) (sasg (mkL (acons (var 5) (acons (var 5) (acons (var 6) (acons (var 7) anil))))) (gn 2)) (sasg (mkL (acons (cal intD (acons (var 4) anil)) (acons (var 5) (acons (var 6) (acons (var 7) anil))))) (gn 2))))))))))
def t3__law_done : Rho → SR :=
  (sfrz 3 (sret (cal tupD (acons (bop addD (var 2) (var 3)) anil))))
def t2__law_done : Rho → SR :=
  sseq (sfor (its (var 0)) (gn 4) b1__law_done) (t3__law_done)
def t1__law_done : Rho → SR :=
  sseq (sown (cal listO (acons (slc (var 1) (psm (con (.int 4))) pno) anil)) 3) (t2__law_done)
def g__law_done : Rho → SR :=
  sseq (sasg (cal listD (acons (slc (var 1) pno (psm (con (.int 4)))) anil)) (gn 2)) (t1__law_done)
def d__law_done (ds : List D) : Res D := runB 9 g__law_done ds
theorem v__law_done {a0 a1 : D} : d__law_done [a0, a1] = finR (g__law_done [.z a0, .z a1, .u, .u, .u, .u, .u, .u, .u]) := runB_eq rfl
def N__law_formula : List Str := ["number", "deep", "one", "other"]
def t4__law_formula (rec : List D → Res D) : Rho → SR :=
  (sret (mkT (acons (bop ixD (mkT (acons (con (.str "plus")) (acons (con (.str "minus")) (acons (con (.str "times")) anil)))) (bop modD (bop divD (var 0) (con (.int 8))) (con (.int 3)))) (acons (var 2) (acons (var 3) anil)))))
def t3__law_formula (rec : List D → Res D) : Rho → SR :=
  sseq (sasg (callD 2 rec (acons (bop divD (callD 2 d__law_drawn (acons (var 0) (acons (con (.int 2)) anil))) (con (.int 4))) (acons (bop subD (bop subD (var 1) (con (.int 1))) (bop mulD (bop modD (bop divD (var 0) (con (.int 16))) (con (.int 2))) (cal intD (acons (bop gtD (var 1) (con (.int 2))) anil)))) anil))) (gn 3)) (t4__law_formula rec)
def t2__law_formula (rec : List D → Res D) : Rho → SR :=
  sseq (sif (tst (bop eqD (bop modD (var 0) (con (.int 7))) (con (.int 1)))) (sret (mkT (acons (con (.str "sign")) (acons (var 2) anil)))) sskip) (t3__law_formula rec)
def t1__law_formula (rec : List D → Res D) : Rho → SR :=
  sseq (sasg (callD 2 rec (acons (bop divD (callD 2 d__law_drawn (acons (var 0) (acons (con (.int 1)) anil))) (con (.int 4))) (acons (bop subD (var 1) (con (.int 1))) anil))) (gn 2)) (t2__law_formula rec)
def g__law_formula (rec : List D → Res D) : Rho → SR :=
  sseq (sif (orQ (tst (bop eqD (var 1) (con (.int 1)))) (tst (bop eqD (bop modD (var 0) (con (.int 7))) (con (.int 0))))) (sret (bop ixD (mkL (acons (mkT (acons (con (.str "name")) (acons (bop modD (bop divD (var 0) (con (.int 7))) (con (.int 3))) anil))) (acons (mkT (acons (con (.str "number")) (acons (bop modD (bop divD (var 0) (con (.int 7))) (con (.int 10))) anil))) anil))) (bop modD (bop divD (var 0) (con (.int 64))) (con (.int 2))))) sskip) (t1__law_formula rec)
def d__law_formula : Nat → List D → Res D
  | 0 => fun _ => .bad
  | n + 1 => runB 4 (g__law_formula (d__law_formula n))
theorem v__law_formula {a0 a1 : D} {n : Nat} : d__law_formula (n + 1) [a0, a1] = finR (g__law_formula (d__law_formula n) [.z a0, .z a1, .u, .u]) := runB_eq rfl
def N__law_value : List Str := ["formula", "boxes", "some", "part"]
def e1__law_value (rec : List D → Res D) : Rho → Res D :=
  (callD 2 rec (acons (var 3) (acons (var 1) anil)))
def t4__law_value (rec : List D → Res D) : Rho → SR :=
  (sret (dixD ["plus", "minus", "times"] (acons (bop addD (bop ixD (var 2) (con (.int 0))) (bop ixD (var 2) (con (.int 1)))) (acons (bop subD (bop ixD (var 2) (con (.int 0))) (bop ixD (var 2) (con (.int 1)))) (acons (bop mulD (bop ixD (var 2) (con (.int 0))) (bop ixD (var 2) (con (.int 1)))) anil))) (bop ixD (var 0) (con (.int 0)))))
def t3__law_value (rec : List D → Res D) : Rho → SR :=
  sseq (sif (tst (bop eqD (bop ixD (var 0) (con (.int 0))) (con (.str "sign")))) (sret (una negD (bop ixD (var 2) (con (.int 0))))) sskip) (t4__law_value rec)
def t2__law_value (rec : List D → Res D) : Rho → SR :=
  sseq (sasg (lcD (its (slc (var 0) (psm (con (.int 1))) pno)) 3 yes (e1__law_value rec)) (gn 2)) (t3__law_value rec)
def t1__law_value (rec : List D → Res D) : Rho → SR :=
  sseq (sif (tst (bop eqD (bop ixD (var 0) (con (.int 0))) (con (.str "number")))) (sret (bop ixD (var 0) (con (.int 1)))) sskip) (t2__law_value rec)
def g__law_value (rec : List D → Res D) : Rho → SR :=
  sseq (sif (tst (bop eqD (bop ixD (var 0) (con (.int 0))) (con (.str "name")))) (sret (bop ixD (var 1) (bop ixD (var 0) (con (.int 1))))) sskip) (t1__law_value rec)
def d__law_value : Nat → List D → Res D
  | 0 => fun _ => .bad
  | n + 1 => runB 4 (g__law_value (d__law_value n))
theorem v__law_value {a0 a1 : D} {n : Nat} : d__law_value (n + 1) [a0, a1] = finR (g__law_value (d__law_value n) [.z a0, .z a1, .u, .u]) := runB_eq rfl
def N_room : List Str := ["formula", "one", "other"]
def t4_room (rec : List D → Res D) : Rho → SR :=
  (sret (bop addD (cal maxD (acons (var 1) (acons (var 2) anil))) (cal intD (acons (bop eqD (var 1) (var 2)) anil))))
def t3_room (rec : List D → Res D) : Rho → SR :=
  sseq (sasg (callD 1 rec (acons (bop ixD (var 0) (con (.int 2))) anil)) (gn 2)) (t4_room rec)
def t2_room (rec : List D → Res D) : Rho → SR :=
  sseq (sif (tst (bop eqD (bop ixD (var 0) (con (.int 0))) (con (.str "sign")))) (sret (var 1)) sskip) (t3_room rec)
def t1_room (rec : List D → Res D) : Rho → SR :=
  sseq (sasg (callD 1 rec (acons (bop ixD (var 0) (con (.int 1))) anil)) (gn 1)) (t2_room rec)
def g_room (rec : List D → Res D) : Rho → SR :=
  sseq (sif (tst (bop inD (bop ixD (var 0) (con (.int 0))) (mkT (acons (con (.str "name")) (acons (con (.str "number")) anil))))) (sret (con (.int 1))) sskip) (t1_room rec)
def d_room : Nat → List D → Res D
  | 0 => fun _ => .bad
  | n + 1 => runB 3 (g_room (d_room n))
theorem v_room {a0 : D} {n : Nat} : d_room (n + 1) [a0] = finR (g_room (d_room n) [.z a0, .u, .u]) := runB_eq rfl
def N_words_of : List Str := ["formula", "word", "found"]
def t7_words_of (rec : List D → Res D) : Rho → SR :=
  (sret (bop addD (var 2) (mkL (acons (var 1) anil))))
def t6_words_of (rec : List D → Res D) : Rho → SR :=
  sseq (sif (tst (bop eqD (var 1) (con (.str "minus")))) (sasg (bop addD (var 2) (mkL (acons (con (.str "swap")) anil))) (gn 2)) sskip) (t7_words_of rec)
def t5_words_of (rec : List D → Res D) : Rho → SR :=
  sseq (sasg (bop addD (callD 1 rec (acons (bop ixD (var 0) (con (.int 2))) anil)) (callD 1 rec (acons (bop ixD (var 0) (con (.int 1))) anil))) (gn 2)) (t6_words_of rec)
def t4_words_of (rec : List D → Res D) : Rho → SR :=
  sseq (sif (tst (bop geD (callD 1 (d_room 12) (acons (bop ixD (var 0) (con (.int 1))) anil)) (callD 1 (d_room 12) (acons (bop ixD (var 0) (con (.int 2))) anil)))) (sret (bop addD (bop addD (callD 1 rec (acons (bop ixD (var 0) (con (.int 1))) anil)) (callD 1 rec (acons (bop ixD (var 0) (con (.int 2))) anil))) (mkL (acons (var 1) anil)))) sskip) (t5_words_of rec)
def t3_words_of (rec : List D → Res D) : Rho → SR :=
  sseq (sif (tst (bop eqD (var 1) (con (.str "sign")))) (sret (bop addD (callD 1 rec (acons (bop ixD (var 0) (con (.int 1))) anil)) (mkL (acons (con (.str "sign")) anil)))) sskip) (t4_words_of rec)
def t2_words_of (rec : List D → Res D) : Rho → SR :=
  sseq (sif (tst (bop eqD (var 1) (con (.str "number")))) (sret (mkL (acons (cal strD (acons (bop ixD (var 0) (con (.int 1))) anil)) anil))) sskip) (t3_words_of rec)
def t1_words_of (rec : List D → Res D) : Rho → SR :=
  sseq (sif (tst (bop eqD (var 1) (con (.str "name")))) (sret (mkL (acons (bop addD (con (.str "get")) (cal strD (acons (bop ixD (var 0) (con (.int 1))) anil))) anil))) sskip) (t2_words_of rec)
def g_words_of (rec : List D → Res D) : Rho → SR :=
  sseq (sasg (bop ixD (var 0) (con (.int 0))) (gn 1)) (t1_words_of rec)
def d_words_of : Nat → List D → Res D
  | 0 => fun _ => .bad
  | n + 1 => runB 3 (g_words_of (d_words_of n))
theorem v_words_of {a0 : D} {n : Nat} : d_words_of (n + 1) [a0] = finR (g_words_of (d_words_of n) [.z a0, .u, .u]) := runB_eq rfl
def N_row_of : List Str := ["formula"]
def t1_row_of : Rho → SR :=
  (sret (cal tupD (acons (callD 1 (d_words_of 12) (acons (var 0) anil)) anil)))
def g_row_of : Rho → SR :=
  sseq (sif (tst (bop gtD (callD 1 (d_room 12) (acons (var 0) anil)) (con (.int 4)))) (sraise "NoRoom") sskip) (t1_row_of)
def d_row_of (ds : List D) : Res D := runB 1 g_row_of ds
theorem v_row_of {a0 : D} : d_row_of [a0] = finR (g_row_of [.z a0]) := runB_eq rfl
def N__law_full : List Str := ["number", "deep", "one"]
def t2__law_full (rec : List D → Res D) : Rho → SR :=
  (sret (mkT (acons (bop ixD (mkT (acons (con (.str "plus")) (acons (con (.str "minus")) (acons (con (.str "times")) anil)))) (bop modD (var 0) (con (.int 3)))) (acons (var 2) (acons (callD 2 rec (acons (bop divD (callD 2 d__law_drawn (acons (var 0) (acons (con (.int 2)) anil))) (con (.int 4))) (acons (bop subD (var 1) (con (.int 1))) anil))) anil)))))
def t1__law_full (rec : List D → Res D) : Rho → SR :=
  sseq (sasg (callD 2 rec (acons (bop divD (callD 2 d__law_drawn (acons (var 0) (acons (con (.int 1)) anil))) (con (.int 4))) (acons (bop subD (var 1) (con (.int 1))) anil))) (gn 2)) (t2__law_full rec)
def g__law_full (rec : List D → Res D) : Rho → SR :=
  sseq (sif (tst (bop eqD (var 1) (con (.int 1)))) (sret (mkT (acons (con (.str "name")) (acons (bop modD (var 0) (con (.int 3))) anil)))) sskip) (t1__law_full rec)
def d__law_full : Nat → List D → Res D
  | 0 => fun _ => .bad
  | n + 1 => runB 3 (g__law_full (d__law_full n))
theorem v__law_full {a0 a1 : D} {n : Nat} : d__law_full (n + 1) [a0, a1] = finR (g__law_full (d__law_full n) [.z a0, .z a1, .u]) := runB_eq rfl
def N__law_leaves : List Str := ["formula", "found", "part"]
def b1__law_leaves (rec : List D → Res D) : Rho → SR :=
  (sasg (bop addD (var 1) (callD 1 rec (acons (var 2) anil))) (gn 1))
def t3__law_leaves (rec : List D → Res D) : Rho → SR :=
  (sret (var 1))
def t2__law_leaves (rec : List D → Res D) : Rho → SR :=
  sseq (sfor (its (slc (var 0) (psm (con (.int 1))) pno)) (gn 2) (b1__law_leaves rec)) (t3__law_leaves rec)
def t1__law_leaves (rec : List D → Res D) : Rho → SR :=
  sseq (sasg (mkL anil) (gn 1)) (t2__law_leaves rec)
def g__law_leaves (rec : List D → Res D) : Rho → SR :=
  sseq (sif (tst (bop inD (bop ixD (var 0) (con (.int 0))) (mkT (acons (con (.str "name")) (acons (con (.str "number")) anil))))) (sret (mkL (acons (bop ixD (mkL (acons (bop addD (con (.str "get")) (cal strD (acons (bop ixD (var 0) (con (.int 1))) anil))) (acons (cal strD (acons (bop ixD (var 0) (con (.int 1))) anil)) anil))) (cal intD (acons (bop eqD (bop ixD (var 0) (con (.int 0))) (con (.str "number"))) anil))) anil))) sskip) (t1__law_leaves rec)
def d__law_leaves : Nat → List D → Res D
  | 0 => fun _ => .bad
  | n + 1 => runB 3 (g__law_leaves (d__law_leaves n))
theorem v__law_leaves {a0 : D} {n : Nat} : d__law_leaves (n + 1) [a0] = finR (g__law_leaves (d__law_leaves n) [.z a0, .u, .u]) := runB_eq rfl
def N__law_room : List Str := ["formula", "some", "part"]
def e1__law_room (rec : List D → Res D) : Rho → Res D :=
  (callD 1 rec (acons (var 2) anil))
def t2__law_room (rec : List D → Res D) : Rho → SR :=
  (sret (bop addD (cal maxLD (acons (var 1) anil)) (cal intD (acons (andE (bop eqD (cal lenD (acons (var 1) anil)) (con (.int 2))) (bop eqD (bop ixD (var 1) (con (.int 0))) (bop ixD (var 1) (con (.int 1))))) anil))))
def t1__law_room (rec : List D → Res D) : Rho → SR :=
  sseq (sasg (lcD (its (slc (var 0) (psm (con (.int 1))) pno)) 2 yes (e1__law_room rec)) (gn 1)) (t2__law_room rec)
def g__law_room (rec : List D → Res D) : Rho → SR :=
  sseq (sif (tst (bop inD (bop ixD (var 0) (con (.int 0))) (mkT (acons (con (.str "name")) (acons (con (.str "number")) anil))))) (sret (con (.int 1))) sskip) (t1__law_room rec)
def d__law_room : Nat → List D → Res D
  | 0 => fun _ => .bad
  | n + 1 => runB 3 (g__law_room (d__law_room n))
theorem v__law_room {a0 : D} {n : Nat} : d__law_room (n + 1) [a0] = finR (g__law_room (d__law_room n) [.z a0, .u, .u]) := runB_eq rfl
def topS (i : Nat) : Stmt := PySem.Challenge.pw_pocketpile_k53_whole_rows_of_formulas.main.body.getD i (.Pass ⟨0, 0, 0, 0⟩)
abbrev s_room : Stmt := topS 9
abbrev s_words_of : Stmt := topS 10
abbrev s_row_of : Stmt := topS 11
abbrev s__law_cell_at : Stmt := topS 13
abbrev s__law_mixed : Stmt := topS 14
abbrev s__law_drawn : Stmt := topS 15
abbrev s__law_formula : Stmt := topS 16
abbrev s__law_full : Stmt := topS 17
abbrev s__law_value : Stmt := topS 18
abbrev s__law_setting : Stmt := topS 20
abbrev s__law_done : Stmt := topS 21
abbrev s__law_told : Stmt := topS 22
abbrev s__law_leaves : Stmt := topS 23
abbrev s__law_room : Stmt := topS 24
abbrev s_law : Stmt := topS 25
def tfs : List He.Defn := [("law", none)]
def tabT (K : PySem.W.Frag) : List (Addr × Str) := [((He.cT K ("law", none)).2, ("law" : Str) ++ ".<locals>." ++ "<lambda>")]
def huB (K : PySem.W.Frag) (x : Str) : Bool := (tabT K).all fun p => !decide (p.1 = (He.cT K (x, none)).2) || decide (p.2 = x ++ ".<locals>." ++ "<lambda>")
theorem huB_ok {K : PySem.W.Frag} {x : Str} (h : huB K x = true) : ∀ p ∈ tabT K, p.1 = (He.cT K (x, none)).2 → p.2 = x ++ ".<locals>." ++ "<lambda>" := fun p hp e => by
  have := List.all_eq_true.mp h p hp
  simpa [e] using this
theorem sc__law_told : FnScope ["deed", "found", "e", "kinds"] ["deed"] (defScope s__law_told) := ⟨rfl, rfl, rfl, by decide +kernel, rfl, by decide +kernel, by decide +kernel⟩
theorem toldS : ToldS (defScope s__law_told) := ⟨by decide +kernel, by decide +kernel, rfl, rfl, rfl⟩
structure Top (w : World) (K : PySem.W.Frag) (mg : Str → Option Value) : Prop where
  f_room : ∃ fd, FunD K "room" "room" (defArgs s_room) (defBody s_room) (defScope s_room) [] [] (He.ga K "room") fd
  m_room : mg "room" = some (.ref (He.ga K "room"))
  f_words_of : ∃ fd, FunD K "words_of" "words_of" (defArgs s_words_of) (defBody s_words_of) (defScope s_words_of) [] [] (He.ga K "words_of") fd
  m_words_of : mg "words_of" = some (.ref (He.ga K "words_of"))
  f_row_of : ∃ fd, FunD K "row_of" "row_of" (defArgs s_row_of) (defBody s_row_of) (defScope s_row_of) [] [] (He.ga K "row_of") fd
  m_row_of : mg "row_of" = some (.ref (He.ga K "row_of"))
  f__law_cell_at : ∃ fd, FunD K "_law_cell_at" "_law_cell_at" (defArgs s__law_cell_at) (defBody s__law_cell_at) (defScope s__law_cell_at) [] [] (He.ga K "_law_cell_at") fd
  m__law_cell_at : mg "_law_cell_at" = some (.ref (He.ga K "_law_cell_at"))
  f__law_mixed : ∃ fd, FunD K "_law_mixed" "_law_mixed" (defArgs s__law_mixed) (defBody s__law_mixed) (defScope s__law_mixed) [] [] (He.ga K "_law_mixed") fd
  m__law_mixed : mg "_law_mixed" = some (.ref (He.ga K "_law_mixed"))
  f__law_drawn : ∃ fd, FunD K "_law_drawn" "_law_drawn" (defArgs s__law_drawn) (defBody s__law_drawn) (defScope s__law_drawn) [] [] (He.ga K "_law_drawn") fd
  m__law_drawn : mg "_law_drawn" = some (.ref (He.ga K "_law_drawn"))
  f__law_formula : ∃ fd, FunD K "_law_formula" "_law_formula" (defArgs s__law_formula) (defBody s__law_formula) (defScope s__law_formula) [] [] (He.ga K "_law_formula") fd
  m__law_formula : mg "_law_formula" = some (.ref (He.ga K "_law_formula"))
  f__law_full : ∃ fd, FunD K "_law_full" "_law_full" (defArgs s__law_full) (defBody s__law_full) (defScope s__law_full) [] [] (He.ga K "_law_full") fd
  m__law_full : mg "_law_full" = some (.ref (He.ga K "_law_full"))
  f__law_value : ∃ fd, FunD K "_law_value" "_law_value" (defArgs s__law_value) (defBody s__law_value) (defScope s__law_value) [] [] (He.ga K "_law_value") fd
  m__law_value : mg "_law_value" = some (.ref (He.ga K "_law_value"))
  f__law_setting : ∃ fd, FunD K "_law_setting" "_law_setting" (defArgs s__law_setting) (defBody s__law_setting) (defScope s__law_setting) [] [] (He.ga K "_law_setting") fd
  m__law_setting : mg "_law_setting" = some (.ref (He.ga K "_law_setting"))
  f__law_done : ∃ fd, FunD K "_law_done" "_law_done" (defArgs s__law_done) (defBody s__law_done) (defScope s__law_done) [] [] (He.ga K "_law_done") fd
  m__law_done : mg "_law_done" = some (.ref (He.ga K "_law_done"))
  f__law_told : ∃ fd, FunD K "_law_told" "_law_told" (defArgs s__law_told) (defBody s__law_told) (defScope s__law_told) [] [] (He.ga K "_law_told") fd
  m__law_told : mg "_law_told" = some (.ref (He.ga K "_law_told"))
  f__law_leaves : ∃ fd, FunD K "_law_leaves" "_law_leaves" (defArgs s__law_leaves) (defBody s__law_leaves) (defScope s__law_leaves) [] [] (He.ga K "_law_leaves") fd
  m__law_leaves : mg "_law_leaves" = some (.ref (He.ga K "_law_leaves"))
  f__law_room : ∃ fd, FunD K "_law_room" "_law_room" (defArgs s__law_room) (defBody s__law_room) (defScope s__law_room) [] [] (He.ga K "_law_room") fd
  m__law_room : mg "_law_room" = some (.ref (He.ga K "_law_room"))
  f_law : ∃ fd, FunD K "law" "law" (defArgs s_law) (defBody s_law) (defScope s_law) [] [] (He.ga K "law") fd
  m_law : mg "law" = some (.ref (He.ga K "law"))
  b_max : mg "max" = none
  b_int : mg "int" = none
  b_str : mg "str" = none
  b_tuple : mg "tuple" = none
  b_len : mg "len" = none
  b_range : mg "range" = none
  b_list : mg "list" = none
  b_bool : mg "bool" = none
  b_isinstance : mg "isinstance" = none
  b_sorted : mg "sorted" = none
  c_ROOM : ∃ t, mg "ROOM" = some (.int (4) t)
  e_NoRoom : ExcN K mg "NoRoom"
  told : ToldC K mg
  hu_law : ∀ p ∈ tabT K, p.1 = (He.cT K ("law", none)).2 → p.2 = ("law" : Str) ++ ".<locals>." ++ "<lambda>"
section
variable {P : Program} {w : World} {K : PySem.W.Frag} {mg : Str → Option Value} {base : Heap} {T : List (Addr × Str)}
theorem sc_room : FnScope N_room ["formula"] (defScope s_room) := ⟨rfl, rfl, rfl, by decide +kernel, rfl, by decide +kernel, by decide +kernel⟩
theorem ok_room (n : Nat) (Z : Top w K mg) : OkD P w K mg base T (n * 1 + 1) "room" 1 (d_room n) := by
  induction n with
  | zero => exact ok_bad (k := 0) (Z.f_room) (Z.m_room) sc_room rfl (fun fd Fd => Fd.bindsN (ps := ["formula"]) (fun _ _ _ _ _ _ us hl => match us, hl with | [_], _ => rfl))
  | succ n ih0 =>
  have ih : Top w K mg → OkD P w K mg base T (n * 1 + 1) "room" 1 (d_room n) := fun _ => ih0
  have e : (n + 1) * 1 + 1 = (n * 1 + 0 + 1) + 1 := by omega
  rw [e]
  obtain ⟨fd, Fd⟩ := Z.f_room
  refine ⟨⟨fd, ["formula"], fn_ok Fd sc_room rfl fun cdv A outer s0 H0 E F0 hr => ?_, Fd.bindsN (ps := ["formula"]) (fun _ _ _ _ _ _ us hl => match us, hl with | [_], _ => rfl)⟩, Fd.kp, Z.m_room⟩
  have tk : Takes (cxOf (L2.CX P w) P w K mg base N_room "room" (defScope s_room) (He.ga K "room") cdv A outer s0 H0 E) (WofE E) := takes_of rfl rfl rfl rfl
  have po : PassesOwn (model P w) (cxOf (L2.CX P w) P w K mg base N_room "room" (defScope s_room) (He.ga K "room") cdv A outer s0 H0 E).A (cxOf (L2.CX P w) P w K mg base N_room "room" (defScope s_room) (He.ga K "room") cdv A outer s0 H0 E).env (cxOf (L2.CX P w) P w K mg base N_room "room" (defScope s_room) (He.ga K "room") cdv A outer s0 H0 E).xe := passes_of (X := (cxOf (L2.CX P w) P w K mg base N_room "room" (defScope s_room) (He.ga K "room") cdv A outer s0 H0 E)) rfl
  have hu := hr.units
  exact (s_cons (s_if (q_cmp (o_in hu) (e_ix (e_var (pv 0)) e_int) (e_tup (a_cons e_str (a_cons e_str a_nil))) (by rfl)) (s_one (s_ret e_int)) s_nil)
    (s_cons (s_asg (e_call (ih Z) hr tk rfl (a_cons (e_ix (e_var (pv 0)) e_int) a_nil) (by omega)) (g_name (pg_name (i := 1) sc_room.nd rfl (Or.inl rfl))))
    (s_cons (s_if (q_cmp (o_eq hu) (e_ix (e_var (pv 0)) e_int) e_str (nomark _)) (s_one (s_ret (e_var (pv 1)))) s_nil)
    (s_cons (s_asg (e_call (ih Z) hr tk rfl (a_cons (e_ix (e_var (pv 0)) e_int) a_nil) (by omega)) (g_name (pg_name (i := 2) sc_room.nd rfl (Or.inl rfl))))
    (s_one (s_ret (e_bin o_add (e_callB (c_max rfl) rfl Z.b_max bt_max (a_cons (e_var (pv 1)) (a_cons (e_var (pv 2)) a_nil))) (e_callTy c_int rfl Z.b_int bt_int (a_cons (e_cmp (o_eq hu) (e_var (pv 1)) (e_var (pv 2)) (nomark _)) a_nil)))))))))
theorem sc_words_of : FnScope N_words_of ["formula"] (defScope s_words_of) := ⟨rfl, rfl, rfl, by decide +kernel, rfl, by decide +kernel, by decide +kernel⟩
theorem ok_words_of (n : Nat) (Z : Top w K mg) : OkD P w K mg base T (n * 1 + 14) "words_of" 1 (d_words_of n) := by
  induction n with
  | zero => exact ok_bad (k := 13) (Z.f_words_of) (Z.m_words_of) sc_words_of rfl (fun fd Fd => Fd.bindsN (ps := ["formula"]) (fun _ _ _ _ _ _ us hl => match us, hl with | [_], _ => rfl))
  | succ n ih0 =>
  have ih : Top w K mg → OkD P w K mg base T (n * 1 + 14) "words_of" 1 (d_words_of n) := fun _ => ih0
  have e : (n + 1) * 1 + 14 = (n * 1 + 0 + 14) + 1 := by omega
  rw [e]
  obtain ⟨fd, Fd⟩ := Z.f_words_of
  refine ⟨⟨fd, ["formula"], fn_ok Fd sc_words_of rfl fun cdv A outer s0 H0 E F0 hr => ?_, Fd.bindsN (ps := ["formula"]) (fun _ _ _ _ _ _ us hl => match us, hl with | [_], _ => rfl)⟩, Fd.kp, Z.m_words_of⟩
  have tk : Takes (cxOf (L2.CX P w) P w K mg base N_words_of "words_of" (defScope s_words_of) (He.ga K "words_of") cdv A outer s0 H0 E) (WofE E) := takes_of rfl rfl rfl rfl
  have po : PassesOwn (model P w) (cxOf (L2.CX P w) P w K mg base N_words_of "words_of" (defScope s_words_of) (He.ga K "words_of") cdv A outer s0 H0 E).A (cxOf (L2.CX P w) P w K mg base N_words_of "words_of" (defScope s_words_of) (He.ga K "words_of") cdv A outer s0 H0 E).env (cxOf (L2.CX P w) P w K mg base N_words_of "words_of" (defScope s_words_of) (He.ga K "words_of") cdv A outer s0 H0 E).xe := passes_of (X := (cxOf (L2.CX P w) P w K mg base N_words_of "words_of" (defScope s_words_of) (He.ga K "words_of") cdv A outer s0 H0 E)) rfl
  have hu := hr.units
  exact (s_cons (s_asg (e_ix (e_var (pv 0)) e_int) (g_name (pg_name (i := 1) sc_words_of.nd rfl (Or.inl rfl))))
    (s_cons (s_if (q_cmp (o_eq hu) (e_var (pv 1)) e_str (nomark _)) (s_one (s_ret (e_lst (a_cons (e_bin o_add e_str (e_callTy c_str rfl Z.b_str bt_str (a_cons (e_ix (e_var (pv 0)) e_int) a_nil))) a_nil)))) s_nil)
    (s_cons (s_if (q_cmp (o_eq hu) (e_var (pv 1)) e_str (nomark _)) (s_one (s_ret (e_lst (a_cons (e_callTy c_str rfl Z.b_str bt_str (a_cons (e_ix (e_var (pv 0)) e_int) a_nil)) a_nil)))) s_nil)
    (s_cons (s_if (q_cmp (o_eq hu) (e_var (pv 1)) e_str (nomark _)) (s_one (s_ret (e_bin o_add (e_call (ih Z) hr tk rfl (a_cons (e_ix (e_var (pv 0)) e_int) a_nil) (by omega)) (e_lst (a_cons e_str a_nil))))) s_nil)
    (s_cons (s_if (q_cmp o_ge (e_call (ok_room 12 Z) hr tk rfl (a_cons (e_ix (e_var (pv 0)) e_int) a_nil) (by omega)) (e_call (ok_room 12 Z) hr tk rfl (a_cons (e_ix (e_var (pv 0)) e_int) a_nil) (by omega)) (nomark _)) (s_one (s_ret (e_bin o_add (e_bin o_add (e_call (ih Z) hr tk rfl (a_cons (e_ix (e_var (pv 0)) e_int) a_nil) (by omega)) (e_call (ih Z) hr tk rfl (a_cons (e_ix (e_var (pv 0)) e_int) a_nil) (by omega))) (e_lst (a_cons (e_var (pv 1)) a_nil))))) s_nil)
    (s_cons (s_asg (e_bin o_add (e_call (ih Z) hr tk rfl (a_cons (e_ix (e_var (pv 0)) e_int) a_nil) (by omega)) (e_call (ih Z) hr tk rfl (a_cons (e_ix (e_var (pv 0)) e_int) a_nil) (by omega))) (g_name (pg_name (i := 2) sc_words_of.nd rfl (Or.inl rfl))))
    (s_cons (s_if (q_cmp (o_eq hu) (e_var (pv 1)) e_str (nomark _)) (s_one (s_asg (e_bin o_add (e_var (pv 2)) (e_lst (a_cons e_str a_nil))) (g_name (pg_name (i := 2) sc_words_of.nd rfl (Or.inl rfl))))) s_nil)
    (s_one (s_ret (e_bin o_add (e_var (pv 2)) (e_lst (a_cons (e_var (pv 1)) a_nil))))))))))))
theorem sc_row_of : FnScope N_row_of ["formula"] (defScope s_row_of) := ⟨rfl, rfl, rfl, by decide +kernel, rfl, by decide +kernel, by decide +kernel⟩
theorem ok_row_of (Z : Top w K mg) : OkD P w K mg base T 27 "row_of" 1 d_row_of := by
  obtain ⟨fd, Fd⟩ := Z.f_row_of
  refine ⟨⟨fd, ["formula"], fn_ok Fd sc_row_of rfl fun cdv A outer s0 H0 E F0 hr => ?_, Fd.bindsN (ps := ["formula"]) (fun _ _ _ _ _ _ us hl => match us, hl with | [_], _ => rfl)⟩, Fd.kp, Z.m_row_of⟩
  have tk : Takes (cxOf (L2.CX P w) P w K mg base N_row_of "row_of" (defScope s_row_of) (He.ga K "row_of") cdv A outer s0 H0 E) (WofE E) := takes_of rfl rfl rfl rfl
  have po : PassesOwn (model P w) (cxOf (L2.CX P w) P w K mg base N_row_of "row_of" (defScope s_row_of) (He.ga K "row_of") cdv A outer s0 H0 E).A (cxOf (L2.CX P w) P w K mg base N_row_of "row_of" (defScope s_row_of) (He.ga K "row_of") cdv A outer s0 H0 E).env (cxOf (L2.CX P w) P w K mg base N_row_of "row_of" (defScope s_row_of) (He.ga K "row_of") cdv A outer s0 H0 E).xe := passes_of (X := (cxOf (L2.CX P w) P w K mg base N_row_of "row_of" (defScope s_row_of) (He.ga K "row_of") cdv A outer s0 H0 E)) rfl
  have hu := hr.units
  exact (s_cons (s_if (q_cmp o_gt (e_call (ok_room 12 Z) hr tk rfl (a_cons (e_var (pv 0)) a_nil)) (e_gint Z.c_ROOM rfl) (nomark _)) (s_one (s_raise Z.e_NoRoom rfl tk rfl)) s_nil)
    (s_one (s_ret (e_callTy c_tup rfl Z.b_tuple bt_tuple (a_cons (e_call (ok_words_of 12 Z) hr tk rfl (a_cons (e_var (pv 0)) a_nil)) a_nil)))))
theorem sc__law_cell_at : FnScope N__law_cell_at ["script", "k"] (defScope s__law_cell_at) := ⟨rfl, rfl, rfl, by decide +kernel, rfl, by decide +kernel, by decide +kernel⟩
theorem ok__law_cell_at (Z : Top w K mg) : OkD P w K mg base T 1 "_law_cell_at" 2 d__law_cell_at := by
  obtain ⟨fd, Fd⟩ := Z.f__law_cell_at
  refine ⟨⟨fd, ["script", "k"], fn_ok Fd sc__law_cell_at rfl fun cdv A outer s0 H0 E F0 hr => ?_, Fd.bindsN (ps := ["script", "k"]) (fun _ _ _ _ _ _ us hl => match us, hl with | [_, _], _ => rfl)⟩, Fd.kp, Z.m__law_cell_at⟩
  have tk : Takes (cxOf (L2.CX P w) P w K mg base N__law_cell_at "_law_cell_at" (defScope s__law_cell_at) (He.ga K "_law_cell_at") cdv A outer s0 H0 E) (WofE E) := takes_of rfl rfl rfl rfl
  have po : PassesOwn (model P w) (cxOf (L2.CX P w) P w K mg base N__law_cell_at "_law_cell_at" (defScope s__law_cell_at) (He.ga K "_law_cell_at") cdv A outer s0 H0 E).A (cxOf (L2.CX P w) P w K mg base N__law_cell_at "_law_cell_at" (defScope s__law_cell_at) (He.ga K "_law_cell_at") cdv A outer s0 H0 E).env (cxOf (L2.CX P w) P w K mg base N__law_cell_at "_law_cell_at" (defScope s__law_cell_at) (He.ga K "_law_cell_at") cdv A outer s0 H0 E).xe := passes_of (X := (cxOf (L2.CX P w) P w K mg base N__law_cell_at "_law_cell_at" (defScope s__law_cell_at) (He.ga K "_law_cell_at") cdv A outer s0 H0 E)) rfl
  have hu := hr.units
  exact (s_cons (s_if (q_cmp o_lt (e_var (pv 1)) (e_callB c_len rfl Z.b_len bt_len (a_cons (e_var (pv 0)) a_nil)) (nomark _)) (s_one (s_ret (e_ix (e_var (pv 0)) (e_var (pv 1))))) s_nil)
    (s_one (s_ret e_int)))
theorem sc__law_mixed : FnScope N__law_mixed ["script", "k"] (defScope s__law_mixed) := ⟨rfl, rfl, rfl, by decide +kernel, rfl, by decide +kernel, by decide +kernel⟩
theorem ok__law_mixed (Z : Top w K mg) : OkD P w K mg base T 2 "_law_mixed" 2 d__law_mixed := by
  obtain ⟨fd, Fd⟩ := Z.f__law_mixed
  refine ⟨⟨fd, ["script", "k"], fn_ok Fd sc__law_mixed rfl fun cdv A outer s0 H0 E F0 hr => ?_, Fd.bindsN (ps := ["script", "k"]) (fun _ _ _ _ _ _ us hl => match us, hl with | [_, _], _ => rfl)⟩, Fd.kp, Z.m__law_mixed⟩
  have tk : Takes (cxOf (L2.CX P w) P w K mg base N__law_mixed "_law_mixed" (defScope s__law_mixed) (He.ga K "_law_mixed") cdv A outer s0 H0 E) (WofE E) := takes_of rfl rfl rfl rfl
  have po : PassesOwn (model P w) (cxOf (L2.CX P w) P w K mg base N__law_mixed "_law_mixed" (defScope s__law_mixed) (He.ga K "_law_mixed") cdv A outer s0 H0 E).A (cxOf (L2.CX P w) P w K mg base N__law_mixed "_law_mixed" (defScope s__law_mixed) (He.ga K "_law_mixed") cdv A outer s0 H0 E).env (cxOf (L2.CX P w) P w K mg base N__law_mixed "_law_mixed" (defScope s__law_mixed) (He.ga K "_law_mixed") cdv A outer s0 H0 E).xe := passes_of (X := (cxOf (L2.CX P w) P w K mg base N__law_mixed "_law_mixed" (defScope s__law_mixed) (He.ga K "_law_mixed") cdv A outer s0 H0 E)) rfl
  have hu := hr.units
  exact (s_cons (s_asg (e_bin o_mod (e_bin o_mul (e_bin o_add (e_bin o_add (e_call (ok__law_cell_at Z) hr tk rfl (a_cons (e_var (pv 0)) (a_cons (e_var (pv 1)) a_nil))) (e_bin o_mul e_int (e_var (pv 1)))) e_int) e_int) e_int) (g_name (pg_name (i := 2) sc__law_mixed.nd rfl (Or.inl rfl))))
    (s_one (s_ret (e_bin o_mod (e_bin o_add (e_bin o_add (e_bin o_mul (e_var (pv 2)) (e_var (pv 2))) (e_bin o_mul e_int (e_var (pv 2)))) (e_var (pv 1))) e_int))))
theorem sc__law_drawn : FnScope N__law_drawn ["number", "k"] (defScope s__law_drawn) := ⟨rfl, rfl, rfl, by decide +kernel, rfl, by decide +kernel, by decide +kernel⟩
theorem ok__law_drawn (Z : Top w K mg) : OkD P w K mg base T 1 "_law_drawn" 2 d__law_drawn := by
  obtain ⟨fd, Fd⟩ := Z.f__law_drawn
  refine ⟨⟨fd, ["number", "k"], fn_ok Fd sc__law_drawn rfl fun cdv A outer s0 H0 E F0 hr => ?_, Fd.bindsN (ps := ["number", "k"]) (fun _ _ _ _ _ _ us hl => match us, hl with | [_, _], _ => rfl)⟩, Fd.kp, Z.m__law_drawn⟩
  have tk : Takes (cxOf (L2.CX P w) P w K mg base N__law_drawn "_law_drawn" (defScope s__law_drawn) (He.ga K "_law_drawn") cdv A outer s0 H0 E) (WofE E) := takes_of rfl rfl rfl rfl
  have po : PassesOwn (model P w) (cxOf (L2.CX P w) P w K mg base N__law_drawn "_law_drawn" (defScope s__law_drawn) (He.ga K "_law_drawn") cdv A outer s0 H0 E).A (cxOf (L2.CX P w) P w K mg base N__law_drawn "_law_drawn" (defScope s__law_drawn) (He.ga K "_law_drawn") cdv A outer s0 H0 E).env (cxOf (L2.CX P w) P w K mg base N__law_drawn "_law_drawn" (defScope s__law_drawn) (He.ga K "_law_drawn") cdv A outer s0 H0 E).xe := passes_of (X := (cxOf (L2.CX P w) P w K mg base N__law_drawn "_law_drawn" (defScope s__law_drawn) (He.ga K "_law_drawn") cdv A outer s0 H0 E)) rfl
  have hu := hr.units
  exact (s_cons (s_asg (e_bin o_mod (e_bin o_mul (e_bin o_add (e_bin o_add (e_var (pv 0)) (e_bin o_mul e_int (e_var (pv 1)))) e_int) e_int) e_int) (g_name (pg_name (i := 2) sc__law_drawn.nd rfl (Or.inl rfl))))
    (s_one (s_ret (e_bin o_mod (e_bin o_add (e_bin o_add (e_bin o_mul (e_var (pv 2)) (e_var (pv 2))) (e_bin o_mul e_int (e_var (pv 2)))) (e_var (pv 1))) e_int))))
theorem sc__law_formula : FnScope N__law_formula ["number", "deep"] (defScope s__law_formula) := ⟨rfl, rfl, rfl, by decide +kernel, rfl, by decide +kernel, by decide +kernel⟩
theorem ok__law_formula (n : Nat) (Z : Top w K mg) : OkD P w K mg base T (n * 1 + 2) "_law_formula" 2 (d__law_formula n) := by
  induction n with
  | zero => exact ok_bad (k := 1) (Z.f__law_formula) (Z.m__law_formula) sc__law_formula rfl (fun fd Fd => Fd.bindsN (ps := ["number", "deep"]) (fun _ _ _ _ _ _ us hl => match us, hl with | [_, _], _ => rfl))
  | succ n ih0 =>
  have ih : Top w K mg → OkD P w K mg base T (n * 1 + 2) "_law_formula" 2 (d__law_formula n) := fun _ => ih0
  have e : (n + 1) * 1 + 2 = (n * 1 + 0 + 2) + 1 := by omega
  rw [e]
  obtain ⟨fd, Fd⟩ := Z.f__law_formula
  refine ⟨⟨fd, ["number", "deep"], fn_ok Fd sc__law_formula rfl fun cdv A outer s0 H0 E F0 hr => ?_, Fd.bindsN (ps := ["number", "deep"]) (fun _ _ _ _ _ _ us hl => match us, hl with | [_, _], _ => rfl)⟩, Fd.kp, Z.m__law_formula⟩
  have tk : Takes (cxOf (L2.CX P w) P w K mg base N__law_formula "_law_formula" (defScope s__law_formula) (He.ga K "_law_formula") cdv A outer s0 H0 E) (WofE E) := takes_of rfl rfl rfl rfl
  have po : PassesOwn (model P w) (cxOf (L2.CX P w) P w K mg base N__law_formula "_law_formula" (defScope s__law_formula) (He.ga K "_law_formula") cdv A outer s0 H0 E).A (cxOf (L2.CX P w) P w K mg base N__law_formula "_law_formula" (defScope s__law_formula) (He.ga K "_law_formula") cdv A outer s0 H0 E).env (cxOf (L2.CX P w) P w K mg base N__law_formula "_law_formula" (defScope s__law_formula) (He.ga K "_law_formula") cdv A outer s0 H0 E).xe := passes_of (X := (cxOf (L2.CX P w) P w K mg base N__law_formula "_law_formula" (defScope s__law_formula) (He.ga K "_law_formula") cdv A outer s0 H0 E)) rfl
  have hu := hr.units
  exact (s_cons (s_if (q_w (w_or (q_cmp (o_eq hu) (e_var (pv 1)) e_int (nomark _)) (w_or1 (q_cmp (o_eq hu) (e_bin o_mod (e_var (pv 0)) e_int) e_int (nomark _))))) (s_one (s_ret (e_ix (e_lst (a_cons (e_tup (a_cons e_str (a_cons (e_bin o_mod (e_bin o_div (e_var (pv 0)) e_int) e_int) a_nil))) (a_cons (e_tup (a_cons e_str (a_cons (e_bin o_mod (e_bin o_div (e_var (pv 0)) e_int) e_int) a_nil))) a_nil))) (e_bin o_mod (e_bin o_div (e_var (pv 0)) e_int) e_int)))) s_nil)
    (s_cons (s_asg (e_call (ih Z) hr tk rfl (a_cons (e_bin o_div (e_call (ok__law_drawn Z) hr tk rfl (a_cons (e_var (pv 0)) (a_cons e_int a_nil)) (by omega)) e_int) (a_cons (e_bin o_sub (e_var (pv 1)) e_int) a_nil)) (by omega)) (g_name (pg_name (i := 2) sc__law_formula.nd rfl (Or.inl rfl))))
    (s_cons (s_if (q_cmp (o_eq hu) (e_bin o_mod (e_var (pv 0)) e_int) e_int (nomark _)) (s_one (s_ret (e_tup (a_cons e_str (a_cons (e_var (pv 2)) a_nil))))) s_nil)
    (s_cons (s_asg (e_call (ih Z) hr tk rfl (a_cons (e_bin o_div (e_call (ok__law_drawn Z) hr tk rfl (a_cons (e_var (pv 0)) (a_cons e_int a_nil)) (by omega)) e_int) (a_cons (e_bin o_sub (e_bin o_sub (e_var (pv 1)) e_int) (e_bin o_mul (e_bin o_mod (e_bin o_div (e_var (pv 0)) e_int) e_int) (e_callTy c_int rfl Z.b_int bt_int (a_cons (e_cmp o_gt (e_var (pv 1)) e_int (nomark _)) a_nil)))) a_nil)) (by omega)) (g_name (pg_name (i := 3) sc__law_formula.nd rfl (Or.inl rfl))))
    (s_one (s_ret (e_tup (a_cons (e_ix (e_tup (a_cons e_str (a_cons e_str (a_cons e_str a_nil)))) (e_bin o_mod (e_bin o_div (e_var (pv 0)) e_int) e_int)) (a_cons (e_var (pv 2)) (a_cons (e_var (pv 3)) a_nil))))))))))
theorem sc__law_full : FnScope N__law_full ["number", "deep"] (defScope s__law_full) := ⟨rfl, rfl, rfl, by decide +kernel, rfl, by decide +kernel, by decide +kernel⟩
theorem ok__law_full (n : Nat) (Z : Top w K mg) : OkD P w K mg base T (n * 1 + 2) "_law_full" 2 (d__law_full n) := by
  induction n with
  | zero => exact ok_bad (k := 1) (Z.f__law_full) (Z.m__law_full) sc__law_full rfl (fun fd Fd => Fd.bindsN (ps := ["number", "deep"]) (fun _ _ _ _ _ _ us hl => match us, hl with | [_, _], _ => rfl))
  | succ n ih0 =>
  have ih : Top w K mg → OkD P w K mg base T (n * 1 + 2) "_law_full" 2 (d__law_full n) := fun _ => ih0
  have e : (n + 1) * 1 + 2 = (n * 1 + 0 + 2) + 1 := by omega
  rw [e]
  obtain ⟨fd, Fd⟩ := Z.f__law_full
  refine ⟨⟨fd, ["number", "deep"], fn_ok Fd sc__law_full rfl fun cdv A outer s0 H0 E F0 hr => ?_, Fd.bindsN (ps := ["number", "deep"]) (fun _ _ _ _ _ _ us hl => match us, hl with | [_, _], _ => rfl)⟩, Fd.kp, Z.m__law_full⟩
  have tk : Takes (cxOf (L2.CX P w) P w K mg base N__law_full "_law_full" (defScope s__law_full) (He.ga K "_law_full") cdv A outer s0 H0 E) (WofE E) := takes_of rfl rfl rfl rfl
  have po : PassesOwn (model P w) (cxOf (L2.CX P w) P w K mg base N__law_full "_law_full" (defScope s__law_full) (He.ga K "_law_full") cdv A outer s0 H0 E).A (cxOf (L2.CX P w) P w K mg base N__law_full "_law_full" (defScope s__law_full) (He.ga K "_law_full") cdv A outer s0 H0 E).env (cxOf (L2.CX P w) P w K mg base N__law_full "_law_full" (defScope s__law_full) (He.ga K "_law_full") cdv A outer s0 H0 E).xe := passes_of (X := (cxOf (L2.CX P w) P w K mg base N__law_full "_law_full" (defScope s__law_full) (He.ga K "_law_full") cdv A outer s0 H0 E)) rfl
  have hu := hr.units
  exact (s_cons (s_if (q_cmp (o_eq hu) (e_var (pv 1)) e_int (nomark _)) (s_one (s_ret (e_tup (a_cons e_str (a_cons (e_bin o_mod (e_var (pv 0)) e_int) a_nil))))) s_nil)
    (s_cons (s_asg (e_call (ih Z) hr tk rfl (a_cons (e_bin o_div (e_call (ok__law_drawn Z) hr tk rfl (a_cons (e_var (pv 0)) (a_cons e_int a_nil)) (by omega)) e_int) (a_cons (e_bin o_sub (e_var (pv 1)) e_int) a_nil)) (by omega)) (g_name (pg_name (i := 2) sc__law_full.nd rfl (Or.inl rfl))))
    (s_one (s_ret (e_tup (a_cons (e_ix (e_tup (a_cons e_str (a_cons e_str (a_cons e_str a_nil)))) (e_bin o_mod (e_var (pv 0)) e_int)) (a_cons (e_var (pv 2)) (a_cons (e_call (ih Z) hr tk rfl (a_cons (e_bin o_div (e_call (ok__law_drawn Z) hr tk rfl (a_cons (e_var (pv 0)) (a_cons e_int a_nil)) (by omega)) e_int) (a_cons (e_bin o_sub (e_var (pv 1)) e_int) a_nil)) (by omega)) a_nil))))))))
theorem sc__law_value : FnScope N__law_value ["formula", "boxes"] (defScope s__law_value) := ⟨rfl, rfl, rfl, by decide +kernel, rfl, by decide +kernel, by decide +kernel⟩
theorem ok__law_value (n : Nat) (Z : Top w K mg) : OkD P w K mg base T (n * 1 + 1) "_law_value" 2 (d__law_value n) := by
  induction n with
  | zero => exact ok_bad (k := 0) (Z.f__law_value) (Z.m__law_value) sc__law_value rfl (fun fd Fd => Fd.bindsN (ps := ["formula", "boxes"]) (fun _ _ _ _ _ _ us hl => match us, hl with | [_, _], _ => rfl))
  | succ n ih0 =>
  have ih : Top w K mg → OkD P w K mg base T (n * 1 + 1) "_law_value" 2 (d__law_value n) := fun _ => ih0
  have e : (n + 1) * 1 + 1 = (n * 1 + 0 + 1) + 1 := by omega
  rw [e]
  obtain ⟨fd, Fd⟩ := Z.f__law_value
  refine ⟨⟨fd, ["formula", "boxes"], fn_ok Fd sc__law_value rfl fun cdv A outer s0 H0 E F0 hr => ?_, Fd.bindsN (ps := ["formula", "boxes"]) (fun _ _ _ _ _ _ us hl => match us, hl with | [_, _], _ => rfl)⟩, Fd.kp, Z.m__law_value⟩
  have tk : Takes (cxOf (L2.CX P w) P w K mg base N__law_value "_law_value" (defScope s__law_value) (He.ga K "_law_value") cdv A outer s0 H0 E) (WofE E) := takes_of rfl rfl rfl rfl
  have po : PassesOwn (model P w) (cxOf (L2.CX P w) P w K mg base N__law_value "_law_value" (defScope s__law_value) (He.ga K "_law_value") cdv A outer s0 H0 E).A (cxOf (L2.CX P w) P w K mg base N__law_value "_law_value" (defScope s__law_value) (He.ga K "_law_value") cdv A outer s0 H0 E).env (cxOf (L2.CX P w) P w K mg base N__law_value "_law_value" (defScope s__law_value) (He.ga K "_law_value") cdv A outer s0 H0 E).xe := passes_of (X := (cxOf (L2.CX P w) P w K mg base N__law_value "_law_value" (defScope s__law_value) (He.ga K "_law_value") cdv A outer s0 H0 E)) rfl
  have hu := hr.units
  exact (s_cons (s_if (q_cmp (o_eq hu) (e_ix (e_var (pv 0)) e_int) e_str (nomark _)) (s_one (s_ret (e_ix (e_var (pv 1)) (e_ix (e_var (pv 0)) e_int)))) s_nil)
    (s_cons (s_if (q_cmp (o_eq hu) (e_ix (e_var (pv 0)) e_int) e_str (nomark _)) (s_one (s_ret (e_ix (e_var (pv 0)) e_int))) s_nil)
    (s_cons (s_setLc (j := 2) (x := "part") (i := 3) rfl sc__law_value.nd rfl rfl (sw_true rfl rfl rfl (by decide +kernel)) (i_any (e_sl (e_var (pv 0)) (p_some e_int) p_none)) (blkOk_by (N := N__law_value) (sc := defScope s__law_value) (by decide +kernel)) (fun _ _ _ _ _ => pg_name (i := 3) sc__law_value.nd rfl (Or.inl rfl)) (fun _ _ _ _ _ => ts_nil) (fun _ _ _ _ _ => (e_call (ih Z) hr L2.takes0 rfl (a_cons (e_var (pv 3)) (a_cons (e_var (pv 1)) a_nil)) (by omega))))
    (s_cons (s_if (q_cmp (o_eq hu) (e_ix (e_var (pv 0)) e_int) e_str (nomark _)) (s_one (s_ret (e_una u_neg (e_ix (e_var (pv 2)) e_int)))) s_nil)
    (s_one (s_ret (e_dix (ks := ["plus", "minus", "times"]) (lt1 hu) (dp_cons (e_bin o_add (e_ix (e_var (pv 2)) e_int) (e_ix (e_var (pv 2)) e_int)) (dp_cons (e_bin o_sub (e_ix (e_var (pv 2)) e_int) (e_ix (e_var (pv 2)) e_int)) (dp_cons (e_bin o_mul (e_ix (e_var (pv 2)) e_int) (e_ix (e_var (pv 2)) e_int)) dp_nil))) (e_ix (e_var (pv 0)) e_int) (by simp) (by decide) (by decide +kernel) (fun _ _ => rfl))))))))
theorem sc__law_setting : FnScope N__law_setting ["number"] (defScope s__law_setting) := ⟨rfl, rfl, rfl, by decide +kernel, rfl, by decide +kernel, by decide +kernel⟩
theorem ok__law_setting (Z : Top w K mg) : OkD P w K mg base T 2 "_law_setting" 1 d__law_setting := by
  obtain ⟨fd, Fd⟩ := Z.f__law_setting
  refine ⟨⟨fd, ["number"], fn_ok Fd sc__law_setting rfl fun cdv A outer s0 H0 E F0 hr => ?_, Fd.bindsN (ps := ["number"]) (fun _ _ _ _ _ _ us hl => match us, hl with | [_], _ => rfl)⟩, Fd.kp, Z.m__law_setting⟩
  have tk : Takes (cxOf (L2.CX P w) P w K mg base N__law_setting "_law_setting" (defScope s__law_setting) (He.ga K "_law_setting") cdv A outer s0 H0 E) (WofE E) := takes_of rfl rfl rfl rfl
  have po : PassesOwn (model P w) (cxOf (L2.CX P w) P w K mg base N__law_setting "_law_setting" (defScope s__law_setting) (He.ga K "_law_setting") cdv A outer s0 H0 E).A (cxOf (L2.CX P w) P w K mg base N__law_setting "_law_setting" (defScope s__law_setting) (He.ga K "_law_setting") cdv A outer s0 H0 E).env (cxOf (L2.CX P w) P w K mg base N__law_setting "_law_setting" (defScope s__law_setting) (He.ga K "_law_setting") cdv A outer s0 H0 E).xe := passes_of (X := (cxOf (L2.CX P w) P w K mg base N__law_setting "_law_setting" (defScope s__law_setting) (He.ga K "_law_setting") cdv A outer s0 H0 E)) rfl
  have hu := hr.units
  exact (s_cons (s_asg (e_ix (e_tup (a_cons e_int (a_cons e_int (a_cons e_int (a_cons e_int a_nil))))) (e_bin o_mod (e_var (pv 0)) e_int)) (g_name (pg_name (i := 1) sc__law_setting.nd rfl (Or.inr rfl))))
    (s_one (s_ret (e_callTy c_tup rfl Z.b_tuple bt_tuple (a_cons (e_lc (x := "k") (i := 2) rfl sc__law_setting.nd (i_rng1 rfl Z.b_range (a_cons e_int a_nil)) (blkOk_by (N := N__law_setting) (sc := defScope s__law_setting) (by decide +kernel)) (fun _ _ _ _ _ => pg_name (i := 2) sc__law_setting.nd rfl (Or.inl rfl)) (fun _ _ _ _ _ => ts_nil) (fun _ _ _ _ _ => (e_bin o_sub (e_bin o_mod (e_bin o_div (e_call (ok__law_drawn Z) hr L2.takes0 rfl (a_cons (e_var (pv 0)) (a_cons (e_var (pv 2)) a_nil))) e_int) (e_var (pv 1))) (e_bin o_mul (e_bin o_div (e_var (pv 1)) e_int) (e_callTy c_int rfl Z.b_int bt_int (a_cons (e_cmp (o_ne hu) (e_bin o_mod (e_var (pv 0)) e_int) e_int (nomark _)) a_nil)))))) a_nil)))))
theorem sc__law_done : FnScope N__law_done ["row", "setting"] (defScope s__law_done) := ⟨rfl, rfl, rfl, by decide +kernel, rfl, by decide +kernel, by decide +kernel⟩
theorem ok__law_done (Z : Top w K mg) : OkD P w K mg base T 1 "_law_done" 2 d__law_done := by
  obtain ⟨fd, Fd⟩ := Z.f__law_done
  refine ⟨⟨fd, ["row", "setting"], fn_ok Fd sc__law_done rfl fun cdv A outer s0 H0 E F0 hr => ?_, Fd.bindsN (ps := ["row", "setting"]) (fun _ _ _ _ _ _ us hl => match us, hl with | [_, _], _ => rfl)⟩, Fd.kp, Z.m__law_done⟩
  have tk : Takes (cxOf (L2.CX P w) P w K mg base N__law_done "_law_done" (defScope s__law_done) (He.ga K "_law_done") cdv A outer s0 H0 E) (WofE E) := takes_of rfl rfl rfl rfl
  have po : PassesOwn (model P w) (cxOf (L2.CX P w) P w K mg base N__law_done "_law_done" (defScope s__law_done) (He.ga K "_law_done") cdv A outer s0 H0 E).A (cxOf (L2.CX P w) P w K mg base N__law_done "_law_done" (defScope s__law_done) (He.ga K "_law_done") cdv A outer s0 H0 E).env (cxOf (L2.CX P w) P w K mg base N__law_done "_law_done" (defScope s__law_done) (He.ga K "_law_done") cdv A outer s0 H0 E).xe := passes_of (X := (cxOf (L2.CX P w) P w K mg base N__law_done "_law_done" (defScope s__law_done) (He.ga K "_law_done") cdv A outer s0 H0 E)) rfl
  have hu := hr.units
  exact (s_cons (s_asg (e_callTy (c_list rfl) rfl Z.b_list bt_list (a_cons (e_sl (e_var (pv 1)) p_none (p_some e_int)) a_nil)) (g_name (pg_name (i := 2) sc__law_done.nd rfl (Or.inl rfl))))
    (s_cons (s_own (o_list rfl Z.b_list bt_list (a_cons (e_sl (e_var (pv 1)) (p_some e_int) p_none) a_nil)) (pg_name (i := 3) sc__law_done.nd rfl (Or.inl rfl)))
    (s_cons (s_for po rfl (i_any (e_var (pv 0))) (g_name (pg_name (i := 4) sc__law_done.nd rfl (Or.inl rfl))) (s_cons (s_asg (e_var (pv 2)) (g_tup rfl (gs_cons (g_name (pg_name (i := 5) sc__law_done.nd rfl (Or.inl rfl))) (gs_cons (g_name (pg_name (i := 6) sc__law_done.nd rfl (Or.inl rfl))) (gs_cons (g_name (pg_name (i := 7) sc__law_done.nd rfl (Or.inl rfl))) (gs_cons (g_name (pg_name (i := 8) sc__law_done.nd rfl (Or.inl rfl))) gs_nil))))))
    (s_one (s_if (q_cmp (o_in hu) (e_var (pv 4)) (e_tup (a_cons e_str (a_cons e_str (a_cons e_str a_nil)))) (by rfl)) (s_one (s_asg (e_lst (a_cons (e_dix (ks := ["plus", "minus", "times"]) (lt1 hu) (dp_cons (e_bin o_add (e_var (pv 6)) (e_var (pv 5))) (dp_cons (e_bin o_sub (e_var (pv 6)) (e_var (pv 5))) (dp_cons (e_bin o_mul (e_var (pv 6)) (e_var (pv 5))) dp_nil))) (e_var (pv 4)) (by simp) (by decide) (by decide +kernel) (fun _ _ => rfl)) (a_cons (e_var (pv 7)) (a_cons (e_var (pv 8)) (a_cons (e_var (pv 8)) a_nil))))) (g_name (pg_name (i := 2) sc__law_done.nd rfl (Or.inl rfl))))) (s_one (s_if (q_cmp (o_eq hu) (e_var (pv 4)) e_str (nomark _)) (s_one (s_asg (e_lst (a_cons (e_una u_neg (e_var (pv 5))) (a_cons (e_var (pv 6)) (a_cons (e_var (pv 7)) (a_cons (e_var (pv 8)) a_nil))))) (g_name (pg_name (i := 2) sc__law_done.nd rfl (Or.inl rfl))))) (s_one (s_if (q_cmp (o_eq hu) (e_var (pv 4)) e_str (nomark _)) (s_one (s_asg (e_lst (a_cons (e_var (pv 6)) (a_cons (e_var (pv 5)) (a_cons (e_var (pv 7)) (a_cons (e_var (pv 8)) a_nil))))) (g_name (pg_name (i := 2) sc__law_done.nd rfl (Or.inl rfl))))) (s_one (s_if (q_cmp (o_eq hu) (e_var (pv 4)) e_str (nomark _)) (s_one (s_asg (e_lst (a_cons (e_var (pv 6)) (a_cons (e_var (pv 7)) (a_cons (e_var (pv 8)) (a_cons (e_var (pv 5)) a_nil))))) (g_name (pg_name (i := 2) sc__law_done.nd rfl (Or.inl rfl))))) (s_one (s_if (q_cmp (o_eq hu) (e_sl (e_var (pv 4)) p_none (p_some e_int)) e_str (nomark _)) (s_one (s_put (pv 3) (e_callTy c_int rfl Z.b_int bt_int (a_cons (e_ix (e_var (pv 4)) e_int) a_nil)) (e_var (pv 5)))) (s_one (s_if (q_cmp (o_eq hu) (e_sl (e_var (pv 4)) p_none (p_some e_int)) e_str (nomark _)) (s_one (s_asg (e_lst (a_cons (e_ixO (pv 3) (e_callTy c_int rfl Z.b_int bt_int (a_cons (e_ix (e_var (pv 4)) e_int) a_nil))) (a_cons (e_var (pv 5)) (a_cons (e_var (pv 6)) (a_cons (e_var (pv 7)) a_nil))))) (g_name (pg_name (i := 2) sc__law_done.nd rfl (Or.inl rfl))))) (s_one (s_if (q_cmp (o_eq hu) (e_var (pv 4)) e_str (nomark _)) (s_one (s_asg (e_lst (a_cons (e_var (pv 5)) (a_cons (e_var (pv 5)) (a_cons (e_var (pv 6)) (a_cons (e_var (pv 7)) a_nil))))) (g_name (pg_name (i := 2) sc__law_done.nd rfl (Or.inl rfl))))) (s_one (s_asg (e_lst (a_cons (e_callTy c_int rfl Z.b_int bt_int (a_cons (e_var (pv 4)) a_nil)) (a_cons (e_var (pv 5)) (a_cons (e_var (pv 6)) (a_cons (e_var (pv 7)) a_nil))))) (g_name (pg_name (i := 2) sc__law_done.nd rfl (Or.inl rfl)))))))))))))))))))))
    (s_frz 3 (s_one (s_ret (e_callTy c_tup rfl Z.b_tuple bt_tuple (a_cons (e_bin o_add (e_var (pv 2)) (e_var (pv 3))) a_nil))))))))
theorem sc__law_leaves : FnScope N__law_leaves ["formula"] (defScope s__law_leaves) := ⟨rfl, rfl, rfl, by decide +kernel, rfl, by decide +kernel, by decide +kernel⟩
theorem ok__law_leaves (n : Nat) (Z : Top w K mg) : OkD P w K mg base T (n * 1 + 1) "_law_leaves" 1 (d__law_leaves n) := by
  induction n with
  | zero => exact ok_bad (k := 0) (Z.f__law_leaves) (Z.m__law_leaves) sc__law_leaves rfl (fun fd Fd => Fd.bindsN (ps := ["formula"]) (fun _ _ _ _ _ _ us hl => match us, hl with | [_], _ => rfl))
  | succ n ih0 =>
  have ih : Top w K mg → OkD P w K mg base T (n * 1 + 1) "_law_leaves" 1 (d__law_leaves n) := fun _ => ih0
  have e : (n + 1) * 1 + 1 = (n * 1 + 0 + 1) + 1 := by omega
  rw [e]
  obtain ⟨fd, Fd⟩ := Z.f__law_leaves
  refine ⟨⟨fd, ["formula"], fn_ok Fd sc__law_leaves rfl fun cdv A outer s0 H0 E F0 hr => ?_, Fd.bindsN (ps := ["formula"]) (fun _ _ _ _ _ _ us hl => match us, hl with | [_], _ => rfl)⟩, Fd.kp, Z.m__law_leaves⟩
  have tk : Takes (cxOf (L2.CX P w) P w K mg base N__law_leaves "_law_leaves" (defScope s__law_leaves) (He.ga K "_law_leaves") cdv A outer s0 H0 E) (WofE E) := takes_of rfl rfl rfl rfl
  have po : PassesOwn (model P w) (cxOf (L2.CX P w) P w K mg base N__law_leaves "_law_leaves" (defScope s__law_leaves) (He.ga K "_law_leaves") cdv A outer s0 H0 E).A (cxOf (L2.CX P w) P w K mg base N__law_leaves "_law_leaves" (defScope s__law_leaves) (He.ga K "_law_leaves") cdv A outer s0 H0 E).env (cxOf (L2.CX P w) P w K mg base N__law_leaves "_law_leaves" (defScope s__law_leaves) (He.ga K "_law_leaves") cdv A outer s0 H0 E).xe := passes_of (X := (cxOf (L2.CX P w) P w K mg base N__law_leaves "_law_leaves" (defScope s__law_leaves) (He.ga K "_law_leaves") cdv A outer s0 H0 E)) rfl
  have hu := hr.units
  exact (s_cons (s_if (q_cmp (o_in hu) (e_ix (e_var (pv 0)) e_int) (e_tup (a_cons e_str (a_cons e_str a_nil))) (by rfl)) (s_one (s_ret (e_lst (a_cons (e_ix (e_lst (a_cons (e_bin o_add e_str (e_callTy c_str rfl Z.b_str bt_str (a_cons (e_ix (e_var (pv 0)) e_int) a_nil))) (a_cons (e_callTy c_str rfl Z.b_str bt_str (a_cons (e_ix (e_var (pv 0)) e_int) a_nil)) a_nil))) (e_callTy c_int rfl Z.b_int bt_int (a_cons (e_cmp (o_eq hu) (e_ix (e_var (pv 0)) e_int) e_str (nomark _)) a_nil))) a_nil)))) s_nil)
    (s_cons (s_asg (e_lst a_nil) (g_name (pg_name (i := 1) sc__law_leaves.nd rfl (Or.inl rfl))))
    (s_cons (s_for po rfl (i_any (e_sl (e_var (pv 0)) (p_some e_int) p_none)) (g_name (pg_name (i := 2) sc__law_leaves.nd rfl (Or.inl rfl))) (s_one (s_asg (e_bin o_add (e_var (pv 1)) (e_call (ih Z) hr tk rfl (a_cons (e_var (pv 2)) a_nil) (by omega))) (g_name (pg_name (i := 1) sc__law_leaves.nd rfl (Or.inl rfl))))))
    (s_one (s_ret (e_var (pv 1)))))))
theorem sc__law_room : FnScope N__law_room ["formula"] (defScope s__law_room) := ⟨rfl, rfl, rfl, by decide +kernel, rfl, by decide +kernel, by decide +kernel⟩
theorem ok__law_room (n : Nat) (Z : Top w K mg) : OkD P w K mg base T (n * 1 + 1) "_law_room" 1 (d__law_room n) := by
  induction n with
  | zero => exact ok_bad (k := 0) (Z.f__law_room) (Z.m__law_room) sc__law_room rfl (fun fd Fd => Fd.bindsN (ps := ["formula"]) (fun _ _ _ _ _ _ us hl => match us, hl with | [_], _ => rfl))
  | succ n ih0 =>
  have ih : Top w K mg → OkD P w K mg base T (n * 1 + 1) "_law_room" 1 (d__law_room n) := fun _ => ih0
  have e : (n + 1) * 1 + 1 = (n * 1 + 0 + 1) + 1 := by omega
  rw [e]
  obtain ⟨fd, Fd⟩ := Z.f__law_room
  refine ⟨⟨fd, ["formula"], fn_ok Fd sc__law_room rfl fun cdv A outer s0 H0 E F0 hr => ?_, Fd.bindsN (ps := ["formula"]) (fun _ _ _ _ _ _ us hl => match us, hl with | [_], _ => rfl)⟩, Fd.kp, Z.m__law_room⟩
  have tk : Takes (cxOf (L2.CX P w) P w K mg base N__law_room "_law_room" (defScope s__law_room) (He.ga K "_law_room") cdv A outer s0 H0 E) (WofE E) := takes_of rfl rfl rfl rfl
  have po : PassesOwn (model P w) (cxOf (L2.CX P w) P w K mg base N__law_room "_law_room" (defScope s__law_room) (He.ga K "_law_room") cdv A outer s0 H0 E).A (cxOf (L2.CX P w) P w K mg base N__law_room "_law_room" (defScope s__law_room) (He.ga K "_law_room") cdv A outer s0 H0 E).env (cxOf (L2.CX P w) P w K mg base N__law_room "_law_room" (defScope s__law_room) (He.ga K "_law_room") cdv A outer s0 H0 E).xe := passes_of (X := (cxOf (L2.CX P w) P w K mg base N__law_room "_law_room" (defScope s__law_room) (He.ga K "_law_room") cdv A outer s0 H0 E)) rfl
  have hu := hr.units
  exact (s_cons (s_if (q_cmp (o_in hu) (e_ix (e_var (pv 0)) e_int) (e_tup (a_cons e_str (a_cons e_str a_nil))) (by rfl)) (s_one (s_ret e_int)) s_nil)
    (s_cons (s_setLc (j := 1) (x := "part") (i := 2) rfl sc__law_room.nd rfl rfl (sw_true rfl rfl rfl (by decide +kernel)) (i_any (e_sl (e_var (pv 0)) (p_some e_int) p_none)) (blkOk_by (N := N__law_room) (sc := defScope s__law_room) (by decide +kernel)) (fun _ _ _ _ _ => pg_name (i := 2) sc__law_room.nd rfl (Or.inl rfl)) (fun _ _ _ _ _ => ts_nil) (fun _ _ _ _ _ => (e_call (ih Z) hr L2.takes0 rfl (a_cons (e_var (pv 2)) a_nil) (by omega))))
    (s_one (s_ret (e_bin o_add (e_callB (c_maxL rfl) rfl Z.b_max bt_max (a_cons (e_var (pv 1)) a_nil)) (e_callTy c_int rfl Z.b_int bt_int (a_cons (e_and (e_cmp (o_eq hu) (e_callB c_len rfl Z.b_len bt_len (a_cons (e_var (pv 1)) a_nil)) e_int (nomark _)) (e_one (e_cmp (o_eq hu) (e_ix (e_var (pv 1)) e_int) (e_ix (e_var (pv 1)) e_int) (nomark _)))) a_nil)))))))
def N_law : List Str := ["script", "number", "formula", "due", "found", "row", "plain", "word", "kept", "k", "setting", "some"]
def e1_law : Rho → Res D :=
  (var 7)
def b2_law : Rho → SR :=
  (sseq (sasg (bop subD (bop addD (var 8) (cal intD (acons (bop inD (var 7) (var 6)) anil))) (cal intD (acons (bop inD (var 7) (mkT (acons (con (.str "plus")) (acons (con (.str "minus")) (acons (con (.str "times")) anil))))) anil))) (gn 8))
    (sif (notQ (tst (chn leD leD (con (.int 1)) (var 8) (var 3)))) (sret (con (.bl false))) sskip))
def b3_law : Rho → SR :=
  (sseq (sasg (callD 1 d__law_setting (acons (callD 2 d__law_mixed (acons (var 0) (acons (var 9) anil))) anil)) (gn 10))
    (sseq (sasg (callD 2 d__law_done (acons (var 5) (acons (var 10) anil))) (gn 11))
    (sif (orQ (tst (bop neD (bop ixD (var 11) (con (.int 0))) (callD 2 (d__law_value 12) (acons (var 2) (acons (slc (var 10) (psm (con (.int 4))) pno) anil))))) (tst (bop neD (slc (var 11) (psm (con (.int 4))) pno) (slc (var 10) (psm (con (.int 4))) pno)))) (sret (con (.bl false))) sskip)))
def t13_law : Rho → SR :=
  (sret (con (.bl true)))
def t12_law : Rho → SR :=
  sseq (sfor (its (mkT (acons (con (.int 2)) (acons (con (.int 3)) anil)))) (gn 9) b3_law) (t13_law)
def t11_law : Rho → SR :=
  sseq (sfor (its (var 5)) (gn 7) b2_law) (t12_law)
def t10_law : Rho → SR :=
  sseq (sasg (con (.int 0)) (gn 8)) (t11_law)
def t9_law : Rho → SR :=
  sseq (sif (orQ (tst (bop neD (bop ixD (var 4) (con (.int 0))) (con (.str "told")))) (orQ (notQ (tst (cal isiD (acons (var 5) (acons (con (.ty "tuple")) anil))))) (tst (bop neD (cal sortD (acons (var 6) anil)) (cal sortD (acons (callD 1 (d__law_leaves 12) (acons (var 2) anil)) anil)))))) (sret (con (.bl false))) sskip) (t10_law)
def t8_law : Rho → SR :=
  sseq (sasg (lcD (its (var 5)) 7 (tst (bop niD (var 7) (mkT (acons (con (.str "plus")) (acons (con (.str "minus")) (acons (con (.str "times")) (acons (con (.str "sign")) (acons (con (.str "swap")) anil)))))))) e1_law) (gn 6)) (t9_law)
def t7_law : Rho → SR :=
  sseq (sasg (bop ixD (var 4) (con (.int 1))) (gn 5)) (t8_law)
def t6_law : Rho → SR :=
  sseq (sif (tst (bop gtD (var 3) (con (.int 4)))) (sret (bop eqD (var 4) (mkT (acons (con (.str "refused")) (acons (con (.int 4)) anil))))) sskip) (t7_law)
def t5_law : Rho → SR :=
  sseq (sasg (toldD (callD 1 d_row_of (acons (var 2) anil))) (gn 4)) (t6_law)
def t4_law : Rho → SR :=
  sseq (sif (orQ (tst (bop neD (callD 1 (d_room 12) (acons (var 2) anil)) (var 3))) (tst (cal isiD (acons (callD 1 (d_room 12) (acons (var 2) anil)) (acons (con (.ty "bool")) anil))))) (sret (con (.bl false))) sskip) (t5_law)
def t3_law : Rho → SR :=
  sseq (sasg (callD 1 (d__law_room 12) (acons (var 2) anil)) (gn 3)) (t4_law)
def t2_law : Rho → SR :=
  sseq (sif (tst (bop eqD (bop modD (bop divD (var 1) (con (.int 8))) (con (.int 3))) (con (.int 1)))) (sasg (callD 2 (d__law_full 12) (acons (callD 2 d__law_mixed (acons (var 0) (acons (con (.int 1)) anil))) (acons (bop addD (con (.int 1)) (bop modD (bop divD (var 1) (con (.int 64))) (con (.int 6)))) anil))) (gn 2)) sskip) (t3_law)
def t1_law : Rho → SR :=
  sseq (sasg (callD 2 (d__law_formula 12) (acons (callD 2 d__law_mixed (acons (var 0) (acons (con (.int 1)) anil))) (acons (bop addD (con (.int 1)) (bop modD (var 1) (con (.int 7)))) anil))) (gn 2)) (t2_law)
def g_law : Rho → SR :=
  sseq (sasg (callD 2 d__law_mixed (acons (var 0) (acons (con (.int 0)) anil))) (gn 1)) (t1_law)
def d_law (ds : List D) : Res D := runB 12 g_law ds
theorem v_law {a0 : D} : d_law [a0] = finR (g_law [.z a0, .u, .u, .u, .u, .u, .u, .u, .u, .u, .u, .u]) := runB_eq rfl
theorem sc_law : FnScope N_law ["script"] (defScope s_law) := ⟨rfl, rfl, rfl, by decide +kernel, rfl, by decide +kernel, by decide +kernel⟩
theorem law_fn (Z : Top w K mg) (B : ∀ d ∈ tfs, LamX.TabB base mg (He.cT K d).1 (He.cT K d).2) {fd : FuncData} (Fd : FunD K "law" "law" (defArgs s_law) (defBody s_law) (defScope s_law) [] [] (He.ga K "law") fd) : FnOk P w K mg base (L2.CX P w) 30 (He.ga K "law") fd ["script"] (spD K (tabT K) 1 d_law) := by
  refine fn_okC Fd sc_law rfl fun A outer s0 H0 E F0 hr => ?_
  obtain ⟨fdt, Ft⟩ := Z.f__law_told
  have tk : Takes (cxOf (L2.CX P w) P w K mg base N_law "law" (defScope s_law) (He.ga K "law") (.ref (He.cT K ("law", none)).1) A outer s0 H0 E) (WofE E) := takes_of rfl rfl rfl rfl
  have po : PassesOwn (model P w) (cxOf (L2.CX P w) P w K mg base N_law "law" (defScope s_law) (He.ga K "law") (.ref (He.cT K ("law", none)).1) A outer s0 H0 E).A (cxOf (L2.CX P w) P w K mg base N_law "law" (defScope s_law) (He.ga K "law") (.ref (He.cT K ("law", none)).1) A outer s0 H0 E).env (cxOf (L2.CX P w) P w K mg base N_law "law" (defScope s_law) (He.ga K "law") (.ref (He.cT K ("law", none)).1) A outer s0 H0 E).xe := passes_of (X := (cxOf (L2.CX P w) P w K mg base N_law "law" (defScope s_law) (He.ga K "law") (.ref (He.cT K ("law", none)).1) A outer s0 H0 E)) rfl
  have hu := hr.units
  exact (s_cons (s_asg (e_call (ok__law_mixed Z) hr tk rfl (a_cons (e_var (pv 0)) (a_cons e_int a_nil))) (g_name (pg_name (i := 1) sc_law.nd rfl (Or.inl rfl))))
    (s_cons (s_asg (e_call (ok__law_formula 12 Z) hr tk rfl (a_cons (e_call (ok__law_mixed Z) hr tk rfl (a_cons (e_var (pv 0)) (a_cons e_int a_nil))) (a_cons (e_bin o_add e_int (e_bin o_mod (e_var (pv 1)) e_int)) a_nil))) (g_name (pg_name (i := 2) sc_law.nd rfl (Or.inr rfl))))
    (s_cons (s_if (q_cmp (o_eq hu) (e_bin o_mod (e_bin o_div (e_var (pv 1)) e_int) e_int) e_int (nomark _)) (s_one (s_asg (e_call (ok__law_full 12 Z) hr tk rfl (a_cons (e_call (ok__law_mixed Z) hr tk rfl (a_cons (e_var (pv 0)) (a_cons e_int a_nil))) (a_cons (e_bin o_add e_int (e_bin o_mod (e_bin o_div (e_var (pv 1)) e_int) e_int)) a_nil))) (g_name (pg_name (i := 2) sc_law.nd rfl (Or.inr rfl))))) s_nil)
    (s_cons (s_asg (e_call (ok__law_room 12 Z) hr tk rfl (a_cons (e_var (pv 2)) a_nil)) (g_name (pg_name (i := 3) sc_law.nd rfl (Or.inl rfl))))
    (s_cons (s_if (q_w (w_or (q_cmp (o_ne hu) (e_call (ok_room 12 Z) hr tk rfl (a_cons (e_var (pv 2)) a_nil)) (e_var (pv 3)) (nomark _)) (w_or1 (q_val (e_callB c_isi rfl Z.b_isinstance bt_isinstance (a_cons (e_call (ok_room 12 Z) hr tk rfl (a_cons (e_var (pv 2)) a_nil)) (a_cons (e_ty Z.b_bool bt_bool rfl) a_nil))))))) (s_one (s_ret e_bl)) s_nil)
    (s_cons (s_asg (e_told (k := 27) (q := ("law" : Str) ++ ".<locals>." ++ "<lambda>") Ft Z.m__law_told (Ft.bindsN (ps := ["deed"]) (fun _ _ _ _ _ _ us hl => match us, hl with | [_], _ => rfl)) sc__law_told (fun _ => told_gives toldS Z.told rfl rfl rfl) (B ("law", none) (by unfold tfs; simp)) rfl rfl (by unfold tabT; simp) Z.hu_law rfl hr (by show LamX.lamSB (defScope s_law) _ = true; decide +kernel) (fun _ _ _ _ _ _ _ hr => (e_call (ok_row_of Z) hr (takes_of rfl rfl rfl rfl) rfl (a_cons (e_var (pv 2)) a_nil)))) (g_name (pg_name (i := 4) sc_law.nd rfl (Or.inl rfl))))
    (s_cons (s_if (q_cmp o_gt (e_var (pv 3)) e_int (nomark _)) (s_one (s_ret (e_cmp (o_eq hu) (e_var (pv 4)) (e_tup (a_cons e_str (a_cons e_int a_nil))) (nomark _)))) s_nil)
    (s_cons (s_asg (e_ix (e_var (pv 4)) e_int) (g_name (pg_name (i := 5) sc_law.nd rfl (Or.inl rfl))))
    (s_cons (s_setLc (j := 6) (x := "word") (i := 7) rfl sc_law.nd rfl rfl (sw_true rfl rfl rfl (by decide +kernel)) (i_any (e_var (pv 5))) (blkOk_by (N := N_law) (sc := defScope s_law) (by decide +kernel)) (fun _ _ _ _ _ => pg_name (i := 7) sc_law.nd rfl (Or.inl rfl)) (fun _ _ _ _ _ => (ts_one (q_cmp (o_ni hu) (e_var (pv 7)) (e_tup (a_cons e_str (a_cons e_str (a_cons e_str (a_cons e_str (a_cons e_str a_nil)))))) (by rfl)))) (fun _ _ _ _ _ => (e_var (pv 7))))
    (s_cons (s_if (q_w (w_or (q_cmp (o_ne hu) (e_ix (e_var (pv 4)) e_int) e_str (nomark _)) (w_or (q_not (q_val (e_callB c_isi rfl Z.b_isinstance bt_isinstance (a_cons (e_var (pv 5)) (a_cons (e_ty Z.b_tuple bt_tuple rfl) a_nil))))) (w_or1 (q_cmp (o_ne hu) (e_callB c_sort rfl Z.b_sorted bt_sorted (a_cons (e_var (pv 6)) a_nil)) (e_callB c_sort rfl Z.b_sorted bt_sorted (a_cons (e_call (ok__law_leaves 12 Z) hr tk rfl (a_cons (e_var (pv 2)) a_nil)) a_nil)) (nomark _)))))) (s_one (s_ret e_bl)) s_nil)
    (s_cons (s_asg e_int (g_name (pg_name (i := 8) sc_law.nd rfl (Or.inl rfl))))
    (s_cons (s_for po rfl (i_any (e_var (pv 5))) (g_name (pg_name (i := 7) sc_law.nd rfl (Or.inl rfl))) (s_cons (s_asg (e_bin o_sub (e_bin o_add (e_var (pv 8)) (e_callTy c_int rfl Z.b_int bt_int (a_cons (e_cmp (o_in hu) (e_var (pv 7)) (e_var (pv 6)) (by rfl)) a_nil))) (e_callTy c_int rfl Z.b_int bt_int (a_cons (e_cmp (o_in hu) (e_var (pv 7)) (e_tup (a_cons e_str (a_cons e_str (a_cons e_str a_nil)))) (by rfl)) a_nil))) (g_name (pg_name (i := 8) sc_law.nd rfl (Or.inl rfl))))
    (s_one (s_if (q_not (q_chn o_le o_le e_int (e_var (pv 8)) (e_var (pv 3)))) (s_one (s_ret e_bl)) s_nil))))
    (s_cons (s_for po rfl (i_any (e_tup (a_cons e_int (a_cons e_int a_nil)))) (g_name (pg_name (i := 9) sc_law.nd rfl (Or.inl rfl))) (s_cons (s_asg (e_call (ok__law_setting Z) hr tk rfl (a_cons (e_call (ok__law_mixed Z) hr tk rfl (a_cons (e_var (pv 0)) (a_cons (e_var (pv 9)) a_nil))) a_nil)) (g_name (pg_name (i := 10) sc_law.nd rfl (Or.inl rfl))))
    (s_cons (s_asg (e_call (ok__law_done Z) hr tk rfl (a_cons (e_var (pv 5)) (a_cons (e_var (pv 10)) a_nil))) (g_name (pg_name (i := 11) sc_law.nd rfl (Or.inl rfl))))
    (s_one (s_if (q_w (w_or (q_cmp (o_ne hu) (e_ix (e_var (pv 11)) e_int) (e_call (ok__law_value 12 Z) hr tk rfl (a_cons (e_var (pv 2)) (a_cons (e_sl (e_var (pv 10)) (p_some e_int) p_none) a_nil))) (nomark _)) (w_or1 (q_cmp (o_ne hu) (e_sl (e_var (pv 11)) (p_some e_int) p_none) (e_sl (e_var (pv 10)) (p_some e_int) p_none) (nomark _))))) (s_one (s_ret e_bl)) s_nil)))))
    (s_one (s_ret e_bl)))))))))))))))
end
local macro_rules | `(tactic| walk_at "ev") => `(tactic| simp -implicitDefEqProofs (disch := first | omega | (simp only [List.length_cons, List.length_nil]; omega)) only [mkTR_ok, mkLR_ok, ix_tm, ix_lm, ix_t0, ix_t1, ix_t2, ix_t3, ix_t4, ix_t5, ix_t6, ix_t7, ix_l0, ix_l1, ix_l2, ix_l3, ix_l4, ix_l5, ix_l6, ix_l7, bin_def, una_def, cal_def, acons_def, anil_def, con_def, callD_def, tst_def, sseq_def, sret_def, sasg_def, sif_def, sskip_def, sraise_def, andQ_def, orQ_def, notQ_def, andE_def, orE_def, notE_def, mkT_def, mkL_def, slc_def, psm_def, pno_def, sfor_def, chn_def, var_zero, var_succ, app2_ok, app1_ok, appL_ok, consR_ok, ofO_some, call0, call1, call2, call3, call4, call5, tstR_ok, seqR_nx, seqR_rt, seqR_ex, retR_ok, retR_ex, asgR_n, asgR_ex, asgR_2, asgR_2L, asgR_3, ifR_t, ifR_f, finR_rt, finR_nx, finR_ex, andR_t, andR_f, orR_t, orR_f, notR_ok, andER_t, andER_f, orER_t, orER_f, notER_ok, psmR_ok, slcR_ok, forR_ok, chn_le, chn_lt, add_ii, sub_ii, neg_i, lt_ii, le_ii, gt_ii, ge_ii, eq_ii, ne_ii, eq_ss, ne_ss, eq_bb, ne_bb, mul_l, mul_r, div_s, mod_p, len_t, len_l, len_a, abs_i, max_ii, min_ii, int_i, int_b, int_t, int_f, List.set_cons_zero, List.set_cons_succ, Bool.not_true, Bool.not_false, decide_true, decide_false, sown_def, ownRR_ok, frz_lst, frz_z, frz_u, frz_succ, sfrz_def, bor_def, borQ_def, flat_i, flat_s, flat_b, flat_n, own_zero, own_succ, sapp_def, sput_def, ixO_def])
local macro_rules | `(tactic| simp?! [$ls,*]) => `(tactic| simp -implicitDefEqProofs (disch := first | omega | (simp only [List.length_cons, List.length_nil]; omega)) only [mkTR_ok, mkLR_ok, ix_tm, ix_lm, ix_t0, ix_t1, ix_t2, ix_t3, ix_t4, ix_t5, ix_t6, ix_t7, ix_l0, ix_l1, ix_l2, ix_l3, ix_l4, ix_l5, ix_l6, ix_l7, bin_def, una_def, cal_def, acons_def, anil_def, con_def, callD_def, tst_def, sseq_def, sret_def, sasg_def, sif_def, sskip_def, sraise_def, andQ_def, orQ_def, notQ_def, andE_def, orE_def, notE_def, mkT_def, mkL_def, slc_def, psm_def, pno_def, sfor_def, chn_def, var_zero, var_succ, app2_ok, app1_ok, appL_ok, consR_ok, ofO_some, call0, call1, call2, call3, call4, call5, tstR_ok, seqR_nx, seqR_rt, seqR_ex, retR_ok, retR_ex, asgR_n, asgR_ex, asgR_2, asgR_2L, asgR_3, ifR_t, ifR_f, finR_rt, finR_nx, finR_ex, andR_t, andR_f, orR_t, orR_f, notR_ok, andER_t, andER_f, orER_t, orER_f, notER_ok, psmR_ok, slcR_ok, forR_ok, chn_le, chn_lt, add_ii, sub_ii, neg_i, lt_ii, le_ii, gt_ii, ge_ii, eq_ii, ne_ii, eq_ss, ne_ss, eq_bb, ne_bb, mul_l, mul_r, div_s, mod_p, len_t, len_l, len_a, abs_i, max_ii, min_ii, int_i, int_b, int_t, int_f, List.set_cons_zero, List.set_cons_succ, Bool.not_true, Bool.not_false, decide_true, decide_false, sown_def, ownRR_ok, frz_lst, frz_z, frz_u, frz_succ, sfrz_def, bor_def, borQ_def, flat_i, flat_s, flat_b, flat_n, own_zero, own_succ, sapp_def, sput_def, ixO_def, $ls,*])
theorem x_cell {ns : List Int} {k : Int} (h : 0 ≤ k) : ∃ c, d__law_cell_at [.arr ns, .int k] = .ok (.int c) := by
  by_cases hk : k < ns.length
  · have hi : ∃ c, ixD (.arr ns) (.int k) = some (.int c) := by
      refine ⟨ns.getD k.toNat 0, ?_⟩
      show (atI ns k).map D.int = _
      unfold atI ixN
      rw [if_pos h, if_pos hk]
      show (ns[k.toNat]?).map D.int = _
      rw [List.getElem?_eq_getElem (by omega), List.getD_eq_getElem?_getD, List.getElem?_eq_getElem (by omega)]
      rfl
    obtain ⟨c, hc⟩ := hi
    exact ⟨c, by simp?! [v__law_cell_at, g__law_cell_at, t1__law_cell_at, hk, hc]⟩
  · exact ⟨0, by simp?! [v__law_cell_at, g__law_cell_at, t1__law_cell_at, hk]⟩
theorem x_mixed {ns : List Int} {k : Int} (h : 0 ≤ k) (h2 : k < 1000) : ∃ m, d__law_mixed [.arr ns, .int k] = .ok (.int m) ∧ 0 ≤ m ∧ m < 2147483629 := by
  obtain ⟨c, hc⟩ := x_cell (ns := ns) h
  simp?! [v__law_mixed, g__law_mixed, t1__law_mixed, hc]
  exact ⟨_, rfl, Int.emod_nonneg _ (by decide), Int.emod_lt_of_pos _ (by decide)⟩
theorem x_drawn {n k : Int} (h : 0 ≤ k) (h2 : k < 1000) : ∃ m, d__law_drawn [.int n, .int k] = .ok (.int m) ∧ 0 ≤ m ∧ m < 2147483629 := by
  simp?! [v__law_drawn, g__law_drawn, t1__law_drawn]
  exact ⟨_, rfl, Int.emod_nonneg _ (by decide), Int.emod_lt_of_pos _ (by decide)⟩
/-! the law's own numbers -/
/-! heights -/
/-! _law_ten -/
theorem rng1_eq {f : Rho → Res (List D)} {ρ : Rho} {j : Int} (h : f ρ = .ok [.int j]) (h1 : 0 ≤ j) (h2 : j < 5000) : rng1 f ρ = .ok (rngD 0 j.toNat) := by
  unfold rng1
  rw [h]
  simp only [Res.bind]
  rw [if_pos ⟨by omega, by omega⟩]
theorem rngD_len {i : Int} {n : Nat} : (rngD i n).length = n := by unfold rngD; rw [List.length_map, List.length_range]
/-! exact and what it calls -/
/-! the law's exact -/
/-! manners -/
/-! comparing, comprehensions -/
mutual
theorem eqd_refl : ∀ (n : Nat) (d : D), plain n d = true → eqd d d = true
  | _, .non, _ => rfl
  | _, .bl b, _ => by simp [eqd]
  | _, .int i, _ => by simp [eqd]
  | _, .str x, _ => by simp [eqd]
  | n, .lst xs, h => by
    cases n with
    | zero => cases h
    | succ n => exact eqds_refl n xs h
  | n, .tup xs, h => by
    cases n with
    | zero => cases h
    | succ n => exact eqds_refl n xs h
  | n, .fn _, h => by cases n <;> cases h
  | n, .ty _, h => by cases n <;> cases h
  | n, .dK _, h => by cases n <;> cases h
  | n, .dT _, h => by cases n <;> cases h
  | n, .arr _, h => by cases n <;> cases h
  | n, .pro _, h => by cases n <;> cases h
theorem eqds_refl : ∀ (n : Nat) (ds : List D), plains n ds = true → eqds ds ds = true
  | _, [], _ => rfl
  | n, d :: ds, h => by
    have h : (plain n d && plains n ds) = true := h
    rw [Bool.and_eq_true] at h
    show (eqd d d && eqds ds ds) = true
    rw [eqd_refl n d h.1, eqds_refl n ds h.2]
    rfl
end
theorem ne_same {d : D} (h : plain 64 d = true) : neD d d = some (.bl false) := by
  unfold neD eqOk
  rw [h, Bool.and_self, Bool.and_self, Bool.or_true, if_pos rfl, eqd_refl 64 d h]
  rfl
theorem eq_same {d : D} (h : plain 64 d = true) : eqD d d = some (.bl true) := by
  unfold eqD eqOk
  rw [h, Bool.and_self, Bool.and_self, Bool.or_true, if_pos rfl, eqd_refl 64 d h]
theorem comp_f {g : Tg} {t : Rho → Res Bool} {e : Rho → Res D} {ρ ρ1 : Rho} {d : D} {ds : List D} (h : g ρ d = some ρ1) (h2 : t ρ1 = .ok false) : compD g t e ρ (d :: ds) = compD g t e ρ ds := by
  rw [compD, h]
  simp only
  rw [h2]
  rfl
theorem comp_t {g : Tg} {t : Rho → Res Bool} {e : Rho → Res D} {ρ ρ1 : Rho} {d y : D} {ds ys : List D} (h : g ρ d = some ρ1) (h2 : t ρ1 = .ok true) (h3 : e ρ1 = .ok y) (h4 : compD g t e ρ ds = .ok ys) : compD g t e ρ (d :: ds) = .ok (y :: ys) := by
  rw [compD, h]
  simp only
  rw [h2]
  simp only [if_true]
  rw [h3]
  simp only
  rw [h4]
  rfl
theorem lc_eq {f : Rho → Res (List D)} {i : Nat} {t : Rho → Res Bool} {e : Rho → Res D} {ρ : Rho} {ds ys : List D} (h : f ρ = .ok ds) (hl : ds.length ≤ 1000000) (h2 : compD (gn i) t e (ρ.set i .u) ds = .ok ys) : lcD f i t e ρ = .ok (.lst ys) := by
  unfold lcD
  rw [h]
  simp only [Res.bind]
  rw [if_pos (by rw [sizeLine_eq]; omega), h2]
theorem so_ref : PyData.strOk (Str.ofString "refused") = true := by decide +kernel
theorem pl_ref {k : Int} : DN.plain 64 (.tup [.str "refused", .int k]) = true := by
  show (PyData.strOk (Str.ofString "refused") && (true && true)) = true
  rw [so_ref]
  rfl
/-! plus, minus, times, over, less, and the law's deed -/
/-! the law's -/
theorem told_def {f : Rho → Res D} {ρ : Rho} : toldD f ρ = toldR (f ρ) := rfl
/-! formulas -/
inductive Tw where | plus | minus | times
  deriving DecidableEq
def Tw.s : Tw → Str
  | .plus => "plus" | .minus => "minus" | .times => "times"
inductive Fm where | name (k : Nat) | num (n : Nat) | sign (f : Fm) | two (w : Tw) (f g : Fm)
def Fm.D : Fm → DN.D
  | .name k => .tup [.str "name", .int k]
  | .num n => .tup [.str "number", .int n]
  | .sign f => .tup [.str "sign", f.D]
  | .two w f g => .tup [.str w.s, f.D, g.D]
def Fm.dp : Fm → Nat
  | .name _ => 1
  | .num _ => 1
  | .sign f => f.dp + 1
  | .two _ f g => max f.dp g.dp + 1
def Fm.Ok : Fm → Prop
  | .name k => k < 3
  | .num n => n < 10
  | .sign f => f.Ok
  | .two _ f g => f.Ok ∧ g.Ok
theorem Fm.dp_pos (f : Fm) : 1 ≤ f.dp := by cases f <;> simp [Fm.dp]
theorem x_lformula : ∀ (fuel : Nat) (n deep : Int), 0 ≤ n → 1 ≤ deep → deep ≤ fuel → ∃ f : Fm, d__law_formula fuel [.int n, .int deep] = .ok f.D ∧ f.Ok ∧ (f.dp : Int) ≤ deep
  | 0, n, deep, h0, h1, h2 => by omega
  | fuel + 1, n, deep, h0, h1, h2 => by
    have leaf : ∃ f : Fm, bop ixD (mkL (acons (mkT (acons (con (.str "name")) (acons (bop modD (bop divD (var 0) (con (.int 7))) (con (.int 3))) anil))) (acons (mkT (acons (con (.str "number")) (acons (bop modD (bop divD (var 0) (con (.int 7))) (con (.int 10))) anil))) anil))) (bop modD (bop divD (var 0) (con (.int 64))) (con (.int 2))) [.z (.int n), .z (.int deep), .u, .u] = .ok f.D ∧ f.Ok ∧ f.dp = 1 := by
      have k1 : ∃ k : Nat, n / 7 % 3 = (k : Int) ∧ k < 3 := ⟨(n / 7 % 3).toNat, by omega, by omega⟩
      have k2 : ∃ k : Nat, n / 7 % 10 = (k : Int) ∧ k < 10 := ⟨(n / 7 % 10).toNat, by omega, by omega⟩
      obtain ⟨a, ha, ha2⟩ := k1
      obtain ⟨b, hb, hb2⟩ := k2
      by_cases q : n / 64 % 2 = 0
      · exact ⟨.name a, by simp?! [ha, hb, q]; rfl, ha2, rfl⟩
      · have q : n / 64 % 2 = 1 := by omega
        exact ⟨.num b, by simp?! [ha, hb, q]; rfl, hb2, rfl⟩
    obtain ⟨lf, l1, l2, l3⟩ := leaf
    by_cases c1 : deep = 1
    · have e1 : (deep == 1) = true := by simpa using c1
      refine ⟨lf, ?_, l2, by omega⟩
      rw [v__law_formula]
      unfold g__law_formula
      rw [sseq_def, sif_def]
      have c : orQ (tst (bop eqD (var 1) (con (.int 1)))) (tst (bop eqD (bop modD (var 0) (con (.int 7))) (con (.int 0)))) [.z (.int n), .z (.int deep), .u, .u] = .ok true := by simp?! [e1]
      rw [c, ifR_t, sret_def, l1, retR_ok, seqR_rt, finR_rt]
    · have e1 : (deep == 1) = false := by simpa using c1
      by_cases c2 : n % 7 = 0
      · have e2 : (n % 7 == 0) = true := by simpa using c2
        refine ⟨lf, ?_, l2, by omega⟩
        rw [v__law_formula]
        unfold g__law_formula
        rw [sseq_def, sif_def]
        have c : orQ (tst (bop eqD (var 1) (con (.int 1)))) (tst (bop eqD (bop modD (var 0) (con (.int 7))) (con (.int 0)))) [.z (.int n), .z (.int deep), .u, .u] = .ok true := by simp?! [e1, e2]
        rw [c, ifR_t, sret_def, l1, retR_ok, seqR_rt, finR_rt]
      · have e2 : (n % 7 == 0) = false := by simpa using c2
        obtain ⟨d1, p1, p2, _⟩ := x_drawn (n := n) (k := 1) (by omega) (by omega)
        obtain ⟨d2, q1, q2, _⟩ := x_drawn (n := n) (k := 2) (by omega) (by omega)
        obtain ⟨f, f1, f2, f3⟩ := x_lformula fuel (d1 / 4) (deep - 1) (by omega) (by omega) (by omega)
        have key : d__law_formula (fuel + 1) [.int n, .int deep] = finR (t2__law_formula (d__law_formula fuel) [.z (.int n), .z (.int deep), .z f.D, .u]) := by
          simp?! [v__law_formula, g__law_formula, t1__law_formula, e1, e2, p1, f1]
        rw [key]
        by_cases c3 : n % 7 = 1
        · have e3 : (n % 7 == 1) = true := by simpa using c3
          refine ⟨.sign f, ?_, f2, by simp only [Fm.dp]; omega⟩
          simp?! [t2__law_formula, e3]
          rfl
        · have e3 : (n % 7 == 1) = false := by simpa using c3
          have m1 : mulD (.int (n / 16 % 2)) (.int (if decide (2 < deep) = true then 1 else 0)) = some (.int (n / 16 % 2 * (if decide (2 < deep) = true then 1 else 0))) := mul_l (by omega)
          obtain ⟨dd, hdd, hd1, hd2⟩ : ∃ dd : Int, deep - 1 - n / 16 % 2 * (if decide (2 < deep) = true then 1 else 0) = dd ∧ 1 ≤ dd ∧ dd ≤ deep - 1 := by
            by_cases q : 2 < deep
            · refine ⟨_, rfl, ?_, ?_⟩
              · rw [decide_eq_true q, if_pos rfl]; omega
              · rw [decide_eq_true q, if_pos rfl]; omega
            · refine ⟨_, rfl, ?_, ?_⟩
              · rw [decide_eq_false q, if_neg (by decide)]; omega
              · rw [decide_eq_false q, if_neg (by decide)]; omega
          obtain ⟨g, g1, g2, g3⟩ := x_lformula fuel (d2 / 4) dd (by omega) (by omega) (by omega)
          have key2 : finR (t2__law_formula (d__law_formula fuel) [.z (.int n), .z (.int deep), .z f.D, .u]) = finR (t4__law_formula (d__law_formula fuel) [.z (.int n), .z (.int deep), .z f.D, .z g.D]) := by
            simp?! [t2__law_formula, t3__law_formula, e3, q1, m1, hdd, g1]
          rw [key2]
          have hw : ∃ w : Tw, finR (t4__law_formula (d__law_formula fuel) [.z (.int n), .z (.int deep), .z f.D, .z g.D]) = .ok (.tup [.str w.s, f.D, g.D]) := by
            have k : n / 8 % 3 = 0 ∨ n / 8 % 3 = 1 ∨ n / 8 % 3 = 2 := by omega
            rcases k with k | k | k
            · exact ⟨.plus, by simp?! [t4__law_formula, k]; rfl⟩
            · exact ⟨.minus, by simp?! [t4__law_formula, k]; rfl⟩
            · exact ⟨.times, by simp?! [t4__law_formula, k]; rfl⟩
          obtain ⟨w, hw⟩ := hw
          exact ⟨.two w f g, hw, ⟨f2, g2⟩, by simp only [Fm.dp]; omega⟩
/-! things -/
mutual
def tg (L : Nat) : Nat → DN.D → Bool
  | _, .non => true
  | _, .bl _ => true
  | _, .int _ => true
  | _, .str x => PyData.strOk x
  | n + 1, .lst xs => decide (xs.length ≤ L) && tgs L n xs
  | n + 1, .tup xs => decide (xs.length ≤ L) && tgs L n xs
  | _, _ => false
def tgs (L : Nat) : Nat → List DN.D → Bool
  | _, [] => true
  | n, x :: xs => tg L n x && tgs L n xs
end
/-! plain data, deeper -/
/-! is_formula -/
theorem sl_1 {x : D} {r : List D} : slD (.tup (x :: r)) (some 1) none = some (.tup r) := by
  show some (D.tup (DN.cutD (x :: r) (some 1) none)) = _
  unfold DN.cutD
  rw [HT.sIx_none, show HT.sIx (x :: r).length 0 (some 1) = min 1 (x :: r).length from HT.sIx_nat _ _ 1]
  rw [Nat.min_eq_left (by simp)]
  congr 2
  exact List.take_of_length_le (by simp)
theorem its_tup {f : Rho → Res D} {ds : List D} {ρ : Rho} (h : f ρ = .ok (.tup ds)) : its f ρ = .ok ds := by
  unfold its
  rw [h]
  rfl
/-! the law's is -/
/-! values -/
def Tw.op : Tw → Int → Int → Int
  | .plus, a, b => a + b | .minus, a, b => a - b | .times, a, b => a * b
def Fm.val (bx : List Int) : Fm → Int
  | .name k => bx.getD k 0
  | .num n => n
  | .sign f => -f.val bx
  | .two w f g => w.op (f.val bx) (g.val bx)
/-- a bound of the boxes, in bits -/
theorem val_bd {bx : List Int} {e : Nat} (he : 4 ≤ e) (hb : ∀ i ∈ bx, i.natAbs < 2 ^ e) : ∀ (f : Fm), f.Ok → (f.val bx).natAbs < 2 ^ (e * 2 ^ f.dp)
  | .name k, h => by
    show (bx.getD k 0).natAbs < 2 ^ (e * 2 ^ 1)
    have h1 : (bx.getD k 0).natAbs < 2 ^ e := by
      rw [List.getD_eq_getElem?_getD]
      cases q : bx[k]? with
      | none => exact Nat.two_pow_pos e
      | some i => exact hb i (List.mem_of_getElem? q)
    exact Nat.lt_of_lt_of_le h1 (Nat.pow_le_pow_right (by decide) (by omega))
  | .num n, h => by
    show ((n : Int)).natAbs < 2 ^ (e * 2 ^ 1)
    have h : n < 10 := h
    have : (2 : Nat) ^ 4 ≤ 2 ^ (e * 2 ^ 1) := Nat.pow_le_pow_right (by decide) (by omega)
    omega
  | .sign f, h => by
    have := val_bd he hb f h
    show (-f.val bx).natAbs < 2 ^ (e * 2 ^ (f.dp + 1))
    rw [Int.natAbs_neg]
    exact Nat.lt_of_lt_of_le this (Nat.pow_le_pow_right (by decide) (Nat.mul_le_mul_left _ (Nat.pow_le_pow_right (by decide) (by omega))))
  | .two w f g, h => by
    have h1 := val_bd he hb f h.1
    have h2 := val_bd he hb g h.2
    have m1 : 2 ^ (e * 2 ^ f.dp) ≤ 2 ^ (e * 2 ^ max f.dp g.dp) := Nat.pow_le_pow_right (by decide) (Nat.mul_le_mul_left _ (Nat.pow_le_pow_right (by decide) (by omega)))
    have m2 : 2 ^ (e * 2 ^ g.dp) ≤ 2 ^ (e * 2 ^ max f.dp g.dp) := Nat.pow_le_pow_right (by decide) (Nat.mul_le_mul_left _ (Nat.pow_le_pow_right (by decide) (by omega)))
    show (w.op (f.val bx) (g.val bx)).natAbs < 2 ^ (e * 2 ^ (max f.dp g.dp + 1))
    have e3 : e * 2 ^ (max f.dp g.dp + 1) = e * 2 ^ max f.dp g.dp + e * 2 ^ max f.dp g.dp := by rw [Nat.pow_succ, ← Nat.mul_assoc]; omega
    rw [e3, Nat.pow_add]
    generalize 2 ^ (e * 2 ^ max f.dp g.dp) = B at *
    have b2 : 2 ≤ B := by
      have : 0 ≤ (f.val bx).natAbs := Nat.zero_le _
      have p : 1 ≤ e * 2 ^ f.dp := Nat.mul_pos (by omega) (Nat.two_pow_pos _)
      have : (2 : Nat) ^ 1 ≤ 2 ^ (e * 2 ^ f.dp) := Nat.pow_le_pow_right (by decide) p
      omega
    have hh : B + B ≤ B * B := by
      have := Nat.mul_le_mul_right B b2
      omega
    cases w with
    | plus => show (f.val bx + g.val bx).natAbs < B * B; omega
    | minus => show (f.val bx - g.val bx).natAbs < B * B; omega
    | times =>
      show (f.val bx * g.val bx).natAbs < B * B
      rw [Int.natAbs_mul]
      exact Nat.mul_lt_mul'' (by omega) (by omega)
theorem val_big {bx : List Int} (hb : ∀ i ∈ bx, i.natAbs < 2 ^ 24) {f : Fm} (hf : f.Ok) (hd : f.dp ≤ 11) : (f.val bx).natAbs < 2 ^ 100000 := by
  have := val_bd (by decide) hb f hf
  refine Nat.lt_of_lt_of_le this (Nat.pow_le_pow_right (by decide) ?_)
  have : 2 ^ f.dp ≤ 2 ^ 11 := Nat.pow_le_pow_right (by decide) hd
  omega
theorem ix_box {bx : List Int} {k : Nat} (h : k < 3) (hl : bx.length = 3) : ixD (.tup (bx.map D.int)) (.int (k : Int)) = some (.int (bx.getD k 0)) := by
  rw [ix_t (by rw [List.length_map, hl]; omega), Int.toNat_natCast, List.getD_eq_getElem?_getD, List.getElem?_map, List.getD_eq_getElem?_getD, List.getElem?_eq_getElem (by omega)]
  rfl
theorem tw_ne (w : Tw) : (w.s == Str.ofString "name") = false ∧ (w.s == Str.ofString "number") = false ∧ (w.s == Str.ofString "sign") = false := by cases w <;> decide +kernel
theorem comp_2 {i : Nat} {e : Rho → Res D} {ρ : Rho} {x y a b : D} (h1 : e (ρ.set i (.z x)) = .ok a) (h2 : e (ρ.set i (.z y)) = .ok b) : compD (gn i) yes e ρ [x, y] = .ok [a, b] :=
  comp_t (show gn i ρ x = some (ρ.set i (.z x)) from rfl) rfl h1 (comp_t (show gn i ρ y = some (ρ.set i (.z y)) from rfl) rfl h2 rfl)
theorem comp_1 {i : Nat} {e : Rho → Res D} {ρ : Rho} {x a : D} (h1 : e (ρ.set i (.z x)) = .ok a) : compD (gn i) yes e ρ [x] = .ok [a] :=
  comp_t (show gn i ρ x = some (ρ.set i (.z x)) from rfl) rfl h1 rfl
def Tw.pick {α : Type} : Tw → α → α → α → α
  | .plus, a, _, _ => a | .minus, _, b, _ => b | .times, _, _, c => c
theorem dix_tw {a b c : D} {f : Rho → Res (List D)} {fe : Rho → Res D} {ρ : Rho} (w : Tw) (h1 : f ρ = .ok [a, b, c]) (h2 : fe ρ = .ok (.str w.s)) : dixD ["plus", "minus", "times"] f fe ρ = .ok (w.pick a b c) := by
  unfold dixD
  rw [h1, h2]
  cases w <;> rfl
theorem x_lvalue {bx : List Int} (hl : bx.length = 3) (hb : ∀ i ∈ bx, i.natAbs < 2 ^ 24) : ∀ (f : Fm) (fuel : Nat), f.Ok → f.dp ≤ 11 → f.dp ≤ fuel → d__law_value fuel [f.D, .tup (bx.map D.int)] = .ok (.int (f.val bx))
  | f, 0, _, _, hf => by have := f.dp_pos; omega
  | .name k, fuel + 1, h, _, _ => by
    have ix := ix_box h hl
    show d__law_value (fuel + 1) [.tup [.str "name", .int k], .tup (bx.map D.int)] = _
    simp?! [v__law_value, g__law_value, beq_self_eq_true, ix]
    rfl
  | .num n, fuel + 1, h, _, _ => by
    have n1 : (Str.ofString "number" == Str.ofString "name") = false := by decide +kernel
    show d__law_value (fuel + 1) [.tup [.str "number", .int n], .tup (bx.map D.int)] = _
    simp?! [v__law_value, g__law_value, t1__law_value, n1, beq_self_eq_true]
    rfl
  | .sign f, fuel + 1, h, hd, hf => by
    have ih := x_lvalue hl hb f fuel h (by simp only [Fm.dp] at hd; omega) (by simp only [Fm.dp] at hf; omega)
    have n1 : (Str.ofString "sign" == Str.ofString "name") = false := by decide +kernel
    have n2 : (Str.ofString "sign" == Str.ofString "number") = false := by decide +kernel
    show d__law_value (fuel + 1) [.tup [.str "sign", f.D], .tup (bx.map D.int)] = _
    have it := its_tup (f := slc (var 0) (psm (con (.int 1))) pno) (ds := [f.D]) (ρ := [.z (.tup [.str "sign", f.D]), .z (.tup (bx.map D.int)), .u, .u]) (by simp?! [sl_1])
    have lc := lc_eq (i := 3) (t := yes) (e := e1__law_value (d__law_value fuel)) it (by simp) (comp_1 (a := .int (f.val bx)) (by
      show e1__law_value (d__law_value fuel) [.z (.tup [.str "sign", f.D]), .z (.tup (bx.map D.int)), .u, .z f.D] = _
      simp?! [e1__law_value, ih]))
    simp?! [v__law_value, g__law_value, t1__law_value, t2__law_value, t3__law_value, n1, n2, beq_self_eq_true, lc]
    rfl
  | .two w f g, fuel + 1, h, hd, hf => by
    have i1 := x_lvalue hl hb f fuel h.1 (by simp only [Fm.dp] at hd; omega) (by simp only [Fm.dp] at hf; omega)
    have i2 := x_lvalue hl hb g fuel h.2 (by simp only [Fm.dp] at hd; omega) (by simp only [Fm.dp] at hf; omega)
    obtain ⟨n1, n2, n3⟩ := tw_ne w
    have mu : mulD (.int (f.val bx)) (.int (g.val bx)) = some (.int (f.val bx * g.val bx)) := mul_w (val_big hb h.1 (by simp only [Fm.dp] at hd; omega)) (val_big hb h.2 (by simp only [Fm.dp] at hd; omega))
    show d__law_value (fuel + 1) [.tup [.str w.s, f.D, g.D], .tup (bx.map D.int)] = .ok (.int (w.op (f.val bx) (g.val bx)))
    have it := its_tup (f := slc (var 0) (psm (con (.int 1))) pno) (ds := [f.D, g.D]) (ρ := [.z (.tup [.str w.s, f.D, g.D]), .z (.tup (bx.map D.int)), .u, .u]) (by simp?! [sl_1])
    have lc := lc_eq (i := 3) (t := yes) (e := e1__law_value (d__law_value fuel)) it (by simp) (comp_2 (a := .int (f.val bx)) (b := .int (g.val bx)) (by
      show e1__law_value (d__law_value fuel) [.z (.tup [.str w.s, f.D, g.D]), .z (.tup (bx.map D.int)), .u, .z f.D] = _
      simp?! [e1__law_value, i1]) (by
      show e1__law_value (d__law_value fuel) [.z (.tup [.str w.s, f.D, g.D]), .z (.tup (bx.map D.int)), .u, .z g.D] = _
      simp?! [e1__law_value, i2]))
    have key : d__law_value (fuel + 1) [.tup [.str w.s, f.D, g.D], .tup (bx.map D.int)] = finR (t4__law_value (d__law_value fuel) [.z (.tup [.str w.s, f.D, g.D]), .z (.tup (bx.map D.int)), .z (.lst [.int (f.val bx), .int (g.val bx)]), .u]) := by
      simp?! [v__law_value, g__law_value, t1__law_value, t2__law_value, t3__law_value, n1, n2, n3, lc]
    rw [key]
    unfold t4__law_value
    rw [sret_def, dix_tw (a := .int (f.val bx + g.val bx)) (b := .int (f.val bx - g.val bx)) (c := .int (f.val bx * g.val bx)) w (by simp?! [mu]) (by simp?! []), retR_ok, finR_rt]
    cases w <;> rfl
/-! lists -/
theorem comp_map {α : Type} {f : α → D} {i : Nat} {e : Rho → Res D} {ρ : Rho} : ∀ (ds : List D), (∀ d ∈ ds, ∃ a, e (ρ.set i (.z d)) = .ok (f a)) → ∃ as : List α, as.length = ds.length ∧ compD (gn i) yes e ρ ds = .ok (as.map f)
  | [], _ => ⟨[], rfl, rfl⟩
  | d :: ds, h => by
    obtain ⟨a, ha⟩ := h d List.mem_cons_self
    obtain ⟨as, h1, h2⟩ := comp_map (f := f) (i := i) (e := e) (ρ := ρ) ds fun x hx => h x (List.mem_cons_of_mem _ hx)
    exact ⟨a :: as, by simp [h1], comp_t (show gn i ρ d = some (ρ.set i (.z d)) from rfl) rfl ha h2⟩
theorem rngD_mem {n : Nat} {d : D} (h : d ∈ rngD 0 n) : ∃ j : Nat, j < n ∧ d = .int (j : Int) := by
  unfold rngD at h
  obtain ⟨j, hj, rfl⟩ := List.mem_map.mp h
  exact ⟨j, List.mem_range.mp hj, by simp⟩
theorem add_ll {a b : List D} (h : a.length + b.length ≤ 1000) : addD (.lst a) (.lst b) = some (.lst (a ++ b)) := by
  show (if a.length + b.length ≤ sizeLine then some (D.lst (a ++ b)) else none) = _
  rw [if_pos (by rw [sizeLine_eq]; omega)]
/-! plain rows -/
inductive Wd where | fig (n : Fin 10) | enter | two (w : Tw) | sign | swap | roll | put (k : Fin 3) | get (k : Fin 3)
def Wd.l : Wd → List Nat
  | .fig n => [48 + n.val]
  | .enter => [101, 110, 116, 101, 114]
  | .two .plus => [112, 108, 117, 115]
  | .two .minus => [109, 105, 110, 117, 115]
  | .two .times => [116, 105, 109, 101, 115]
  | .sign => [115, 105, 103, 110]
  | .swap => [115, 119, 97, 112]
  | .roll => [114, 111, 108, 108]
  | .put k => [112, 117, 116, 48 + k.val]
  | .get k => [103, 101, 116, 48 + k.val]
def Wd.d (w : Wd) : D := .str (S w.l)
structure S7 where
  x : Int
  y : Int
  z : Int
  t : Int
  b : Fin 3 → Int
def S7.pl (s : S7) : List D := [.int s.x, .int s.y, .int s.z, .int s.t]
def S7.bx (s : S7) : List D := [.int (s.b 0), .int (s.b 1), .int (s.b 2)]
def S7.D (s : S7) : DN.D := .tup (s.pl ++ s.bx)
def Wd.step : Wd → S7 → S7
  | .fig n, s => ⟨n.val, s.x, s.y, s.z, s.b⟩
  | .enter, s => ⟨s.x, s.x, s.y, s.z, s.b⟩
  | .two w, s => ⟨w.op s.y s.x, s.z, s.t, s.t, s.b⟩
  | .sign, s => ⟨-s.x, s.y, s.z, s.t, s.b⟩
  | .swap, s => ⟨s.y, s.x, s.z, s.t, s.b⟩
  | .roll, s => ⟨s.y, s.z, s.t, s.x, s.b⟩
  | .put k, s => ⟨s.x, s.y, s.z, s.t, fun i => if i = k then s.x else s.b i⟩
  | .get k, s => ⟨s.b k, s.x, s.y, s.z, s.b⟩
theorem fin10 (n : Fin 10) : n = 0 ∨ n = 1 ∨ n = 2 ∨ n = 3 ∨ n = 4 ∨ n = 5 ∨ n = 6 ∨ n = 7 ∨ n = 8 ∨ n = 9 := by revert n; decide
theorem fin3 (n : Fin 3) : n = 0 ∨ n = 1 ∨ n = 2 := by revert n; decide
abbrev ldR (r q : En) (s : S7) (w x y z t : En) : Rho := [r, q, .z (.lst s.pl), .o (.lst s.bx), w, x, y, z, t]
theorem ld_step (w : Wd) (s : S7) (r q e1 e2 e3 e4 : En) (hm : ∀ v, w = .two v → mulD (.int s.y) (.int s.x) = some (.int (s.y * s.x))) : b1__law_done (ldR r q s (.z w.d) e1 e2 e3 e4) = .nx (ldR r q (w.step s) (.z w.d) (.z (.int s.x)) (.z (.int s.y)) (.z (.int s.z)) (.z (.int s.t))) := by
  obtain ⟨x, y, z, t, b⟩ := s
  cases w with
  | fig n => rcases fin10 n with rfl | rfl | rfl | rfl | rfl | rfl | rfl | rfl | rfl | rfl <;> kernel_rfl
  | enter => kernel_rfl
  | sign => kernel_rfl
  | swap => kernel_rfl
  | roll => kernel_rfl
  | put k => rcases fin3 k with rfl | rfl | rfl <;> kernel_rfl
  | get k => rcases fin3 k with rfl | rfl | rfl <;> kernel_rfl
  | two w =>
    have hm : mulD (.int y) (.int x) = some (.int (y * x)) := hm w rfl
    have a4 : sasg (var 2) (gt 4 (gsc (gn 5) (gsc (gn 6) (gsc (gn 7) (gsc (gn 8) gsn))))) (ldR r q ⟨x, y, z, t, b⟩ (.z (Wd.d (.two w))) e1 e2 e3 e4) = .nx (ldR r q ⟨x, y, z, t, b⟩ (.z (Wd.d (.two w))) (.z (.int x)) (.z (.int y)) (.z (.int z)) (.z (.int t))) := rfl
    have c1 : tst (bop inD (var 4) (mkT (acons (con (.str "plus")) (acons (con (.str "minus")) (acons (con (.str "times")) anil))))) (ldR r q ⟨x, y, z, t, b⟩ (.z (Wd.d (.two w))) (.z (.int x)) (.z (.int y)) (.z (.int z)) (.z (.int t))) = .ok true := by cases w <;> kernel_rfl
    have ar : acons (bop addD (var 6) (var 5)) (acons (bop subD (var 6) (var 5)) (acons (bop mulD (var 6) (var 5)) anil)) (ldR r q ⟨x, y, z, t, b⟩ (.z (Wd.d (.two w))) (.z (.int x)) (.z (.int y)) (.z (.int z)) (.z (.int t))) = .ok [.int (y + x), .int (y - x), .int (y * x)] := by simp?! [ldR, hm]
    have dx : dixD ["plus", "minus", "times"] (acons (bop addD (var 6) (var 5)) (acons (bop subD (var 6) (var 5)) (acons (bop mulD (var 6) (var 5)) anil))) (var 4) (ldR r q ⟨x, y, z, t, b⟩ (.z (Wd.d (.two w))) (.z (.int x)) (.z (.int y)) (.z (.int z)) (.z (.int t))) = .ok (.int (w.op y x)) := by
      unfold dixD
      rw [ar]
      cases w <;> kernel_rfl
    unfold b1__law_done
    rw [sseq_def, a4, seqR_nx, sif_def, c1, ifR_t, sasg_def, mkL_def, acons_def, dx]
    kernel_rfl
def runW (s : S7) : List Wd → S7
  | [] => s
  | w :: ws => runW (w.step s) ws
def S7.Bd (s : S7) (e : Nat) : Prop := s.x.natAbs < 2 ^ e ∧ s.y.natAbs < 2 ^ e ∧ s.z.natAbs < 2 ^ e ∧ s.t.natAbs < 2 ^ e ∧ ∀ i, (s.b i).natAbs < 2 ^ e
theorem S7.up {s : S7} {e f : Nat} (h : s.Bd e) (hf : e ≤ f) : s.Bd f := by
  have p : 2 ^ e ≤ 2 ^ f := Nat.pow_le_pow_right (by decide) hf
  obtain ⟨a, b, c, d, k⟩ := h
  exact ⟨by omega, by omega, by omega, by omega, fun i => Nat.lt_of_lt_of_le (k i) p⟩
/-! drawn rows and settings -/
theorem x_lsetting {n : Int} : ∃ s : S7, s.Bd 24 ∧ d__law_setting [.int n] = .ok s.D := by
  have k4 : ∃ hi : Int, 3 ≤ hi ∧ hi ≤ 2000000 ∧ ixD (.tup [.int 9, .int 9, .int 2000000, .int 3]) (.int (n % 4)) = some (.int hi) := by
    have k : n % 4 = 0 ∨ n % 4 = 1 ∨ n % 4 = 2 ∨ n % 4 = 3 := by omega
    rcases k with k | k | k | k <;> rw [k]
    · exact ⟨9, by decide, by decide, rfl⟩
    · exact ⟨9, by decide, by decide, rfl⟩
    · exact ⟨2000000, by decide, by decide, rfl⟩
    · exact ⟨3, by decide, by decide, rfl⟩
  obtain ⟨hi, h1, h2, h3⟩ := k4
  have q : acons (con (.int 7)) anil [.z (.int n), .z (.int hi), .u] = .ok [.int 7] := rfl
  have e := rng1_eq q (by decide) (by decide)
  obtain ⟨as, l1, l2⟩ := comp_map (f := fun a : { i : Int // i.natAbs < 2 ^ 24 } => D.int a.1) (i := 2) (e := e1__law_setting) (ρ := [.z (.int n), .z (.int hi), .u]) (rngD 0 (7 : Int).toNat) (by
    intro d hd
    obtain ⟨j, hj, rfl⟩ := rngD_mem hd
    have hj : j < 7 := hj
    obtain ⟨dr, d1, d2, d3⟩ := x_drawn (n := n) (k := (j : Int)) (by omega) (by omega)
    have md : modD (.int (dr / 4)) (.int hi) = some (.int (dr / 4 % hi)) := mod_p (by omega)
    have m0 : 0 ≤ dr / 4 % hi := Int.emod_nonneg _ (by omega)
    have m1 : dr / 4 % hi < hi := Int.emod_lt_of_pos _ (by omega)
    generalize dr / 4 % hi = v at *
    by_cases c : n % 4 = 1
    · have ec : (n % 4 == 1) = true := by simpa using c
      have mu : mulD (.int (hi / 2)) (.int 0) = some (.int (hi / 2 * 0)) := mul_l (by omega)
      refine ⟨⟨v - hi / 2 * 0, by omega⟩, ?_⟩
      simp?! [e1__law_setting, d1, md, ec, mu]
      rfl
    · have ec : (n % 4 == 1) = false := by simpa using c
      have mu : mulD (.int (hi / 2)) (.int 1) = some (.int (hi / 2 * 1)) := mul_l (by omega)
      refine ⟨⟨v - hi / 2 * 1, by omega⟩, ?_⟩
      simp?! [e1__law_setting, d1, md, ec, mu]
      rfl)
  rw [rngD_len] at l1
  have lc := lc_eq (t := yes) (e := e1__law_setting) (i := 2) e (by rw [rngD_len]; decide) l2
  have l7 : as.length = 7 := l1
  match as, l7, lc with
  | [a, b, c, d, p, q, r], _, lc =>
    refine ⟨⟨a.1, b.1, c.1, d.1, fun i => if i = 0 then p.1 else if i = 1 then q.1 else r.1⟩, ⟨a.2, b.2, c.2, d.2, fun i => ?_⟩, ?_⟩
    · show (if i = 0 then p.1 else if i = 1 then q.1 else r.1).natAbs < _
      split
      · exact p.2
      · split
        · exact q.2
        · exact r.2
    · have tp : ∀ l : List D, tupD [.lst l] = some (.tup l) := fun _ => rfl
      simp?! [v__law_setting, g__law_setting, t1__law_setting, h3, lc, tp]
      rfl
/-! formulas made to rows -/
def f3 (k : Nat) : Fin 3 := ⟨k % 3, Nat.mod_lt _ (by decide)⟩
def f10 (k : Nat) : Fin 10 := ⟨k % 10, Nat.mod_lt _ (by decide)⟩
def rm : Fm → Nat
  | .name _ => 1
  | .num _ => 1
  | .sign f => rm f
  | .two _ f g => max (rm f) (rm g) + (if rm f = rm g then 1 else 0)
theorem rm_pos : ∀ f : Fm, 1 ≤ rm f
  | .name _ => Nat.le_refl _
  | .num _ => Nat.le_refl _
  | .sign f => rm_pos f
  | .two _ f g => by
    have := rm_pos f
    show 1 ≤ max (rm f) (rm g) + _
    omega
def wds : Fm → List Wd
  | .name k => [.get (f3 k)]
  | .num n => [.fig (f10 n)]
  | .sign f => wds f ++ [.sign]
  | .two w f g => if rm g ≤ rm f then wds f ++ wds g ++ [.two w] else wds g ++ wds f ++ (if w = .minus then [.swap] else []) ++ [.two w]
def lvs : Fm → List Wd
  | .name k => [.get (f3 k)]
  | .num n => [.fig (f10 n)]
  | .sign f => lvs f
  | .two _ f g => lvs f ++ lvs g
theorem wds_len : ∀ f : Fm, 2 * ((wds f).length + 2) ≤ 3 * 2 ^ f.dp
  | .name _ => by show 2 * (1 + 2) ≤ 3 * 2 ^ 1; decide
  | .num _ => by show 2 * (1 + 2) ≤ 3 * 2 ^ 1; decide
  | .sign f => by
    have := wds_len f
    show 2 * ((wds f ++ [Wd.sign]).length + 2) ≤ 3 * 2 ^ (f.dp + 1)
    rw [List.length_append, Nat.pow_succ]
    have : 1 ≤ 2 ^ f.dp := Nat.one_le_two_pow
    simp; omega
  | .two w f g => by
    have h1 := wds_len f
    have h2 := wds_len g
    have m1 : 2 ^ f.dp ≤ 2 ^ max f.dp g.dp := Nat.pow_le_pow_right (by decide) (by omega)
    have m2 : 2 ^ g.dp ≤ 2 ^ max f.dp g.dp := Nat.pow_le_pow_right (by decide) (by omega)
    show 2 * ((if rm g ≤ rm f then wds f ++ wds g ++ [Wd.two w] else wds g ++ wds f ++ (if w = Tw.minus then [Wd.swap] else []) ++ [Wd.two w]).length + 2) ≤ 3 * 2 ^ (max f.dp g.dp + 1)
    rw [Nat.pow_succ]
    split
    · simp; omega
    · split <;> simp <;> omega
theorem lvs_len : ∀ f : Fm, (lvs f).length ≤ (wds f).length
  | .name _ => Nat.le_refl _
  | .num _ => Nat.le_refl _
  | .sign f => by
    have := lvs_len f
    show (lvs f).length ≤ (wds f ++ [Wd.sign]).length
    simp; omega
  | .two w f g => by
    have h1 := lvs_len f
    have h2 := lvs_len g
    show (lvs f ++ lvs g).length ≤ (if rm g ≤ rm f then wds f ++ wds g ++ [Wd.two w] else wds g ++ wds f ++ (if w = Tw.minus then [Wd.swap] else []) ++ [Wd.two w]).length
    split
    · simp; omega
    · split <;> simp <;> omega
theorem wds_300 {f : Fm} (h : f.dp ≤ 7) : (wds f).length ≤ 190 := by
  have := wds_len f
  have : 2 ^ f.dp ≤ 2 ^ 7 := Nat.pow_le_pow_right (by decide) h
  omega
/-! the defs -/
theorem in_leafN : inD (.str "name") (.tup [.str "name", .str "number"]) = some (.bl true) := by kernel_rfl
theorem in_leafU : inD (.str "number") (.tup [.str "name", .str "number"]) = some (.bl true) := by kernel_rfl
theorem in_leafS : inD (.str "sign") (.tup [.str "name", .str "number"]) = some (.bl false) := by kernel_rfl
theorem in_leafT (w : Tw) : inD (.str w.s) (.tup [.str "name", .str "number"]) = some (.bl false) := by cases w <;> kernel_rfl
theorem rm_int (a b : Nat) : (if (b : Int) > a then (b : Int) else a) + (if ((a : Int) == b) = true then (1 : Int) else 0) = ((max a b + (if a = b then 1 else 0) : Nat) : Int) := by
  by_cases e : a = b
  · subst e
    simp
  · have e2 : ((a : Int) == b) = false := by rw [beq_eq_false_iff_ne]; omega
    rw [e2, if_neg e]
    split <;> simp <;> omega
theorem x_room : ∀ (f : Fm) (fuel : Nat), f.dp ≤ fuel → d_room fuel [f.D] = .ok (.int (rm f : Int))
  | f, 0, hf => by have := f.dp_pos; omega
  | .name k, fuel + 1, _ => by
    show d_room (fuel + 1) [.tup [.str "name", .int k]] = _
    simp?! [v_room, g_room, in_leafN]
    rfl
  | .num n, fuel + 1, _ => by
    show d_room (fuel + 1) [.tup [.str "number", .int n]] = _
    simp?! [v_room, g_room, in_leafU]
    rfl
  | .sign f, fuel + 1, hf => by
    have ih := x_room f fuel (by simp only [Fm.dp] at hf; omega)
    show d_room (fuel + 1) [.tup [.str "sign", f.D]] = _
    simp?! [v_room, g_room, t1_room, t2_room, in_leafS, ih, beq_self_eq_true]
    rfl
  | .two w f g, fuel + 1, hf => by
    have i1 := x_room f fuel (by simp only [Fm.dp] at hf; omega)
    have i2 := x_room g fuel (by simp only [Fm.dp] at hf; omega)
    obtain ⟨_, _, n3⟩ := tw_ne w
    have li := in_leafT w
    show d_room (fuel + 1) [.tup [.str w.s, f.D, g.D]] = _
    simp?! [v_room, g_room, t1_room, t2_room, t3_room, t4_room, li, n3, i1, i2]
    rw [rm_int]
    rfl
theorem maxL1 (a : Int) : maxLD [.lst [.int a]] = some (.int a) := by kernel_rfl
theorem maxL2 (a b : Nat) : maxLD [.lst [.int (a : Int), .int (b : Int)]] = some (.int ((max a b : Nat) : Int)) := by
  show ([(a : Int), (b : Int)].max?).map D.int = _
  have : [(a : Int), (b : Int)].max? = some ((max a b : Nat) : Int) := by
    rw [List.max?_cons']
    simp
    omega
  rw [this]; rfl
theorem x_lroom : ∀ (f : Fm) (fuel : Nat), f.dp ≤ fuel → d__law_room fuel [f.D] = .ok (.int (rm f : Int))
  | f, 0, hf => by have := f.dp_pos; omega
  | .name k, fuel + 1, _ => by
    show d__law_room (fuel + 1) [.tup [.str "name", .int k]] = _
    simp?! [v__law_room, g__law_room, in_leafN]
    rfl
  | .num n, fuel + 1, _ => by
    show d__law_room (fuel + 1) [.tup [.str "number", .int n]] = _
    simp?! [v__law_room, g__law_room, in_leafU]
    rfl
  | .sign f, fuel + 1, hf => by
    have ih := x_lroom f fuel (by simp only [Fm.dp] at hf; omega)
    show d__law_room (fuel + 1) [.tup [.str "sign", f.D]] = _
    have it := its_tup (f := slc (var 0) (psm (con (.int 1))) pno) (ds := [f.D]) (ρ := [.z (.tup [.str "sign", f.D]), .u, .u]) (by simp?! [sl_1])
    have lc := lc_eq (i := 2) (t := yes) (e := e1__law_room (d__law_room fuel)) it (by simp) (comp_1 (a := .int (rm f : Int)) (by
      show e1__law_room (d__law_room fuel) [.z (.tup [.str "sign", f.D]), .u, .z f.D] = _
      simp?! [e1__law_room, ih]))
    have l1 : ((([D.int (rm f : Int)]).length : Int) == 2) = false := rfl
    have mx := maxL1 (rm f : Int)
    simp?! [v__law_room, g__law_room, t1__law_room, t2__law_room, in_leafS, lc, l1, mx]
    show Res.ok (D.int ((rm f : Int) + 0)) = _
    rw [Int.add_zero]
    rfl
  | .two w f g, fuel + 1, hf => by
    have i1 := x_lroom f fuel (by simp only [Fm.dp] at hf; omega)
    have i2 := x_lroom g fuel (by simp only [Fm.dp] at hf; omega)
    have li := in_leafT w
    show d__law_room (fuel + 1) [.tup [.str w.s, f.D, g.D]] = _
    have it := its_tup (f := slc (var 0) (psm (con (.int 1))) pno) (ds := [f.D, g.D]) (ρ := [.z (.tup [.str w.s, f.D, g.D]), .u, .u]) (by simp?! [sl_1])
    have lc := lc_eq (i := 2) (t := yes) (e := e1__law_room (d__law_room fuel)) it (by simp) (comp_2 (a := .int (rm f : Int)) (b := .int (rm g : Int)) (by
      show e1__law_room (d__law_room fuel) [.z (.tup [.str w.s, f.D, g.D]), .u, .z f.D] = _
      simp?! [e1__law_room, i1]) (by
      show e1__law_room (d__law_room fuel) [.z (.tup [.str w.s, f.D, g.D]), .u, .z g.D] = _
      simp?! [e1__law_room, i2]))
    have l1 : ((([D.int (rm f : Int), D.int (rm g : Int)]).length : Int) == 2) = true := rfl
    have mx := maxL2 (rm f) (rm g)
    simp?! [v__law_room, g__law_room, t1__law_room, t2__law_room, li, lc, l1, mx]
    have e : (if ((rm f : Int) == (rm g : Int)) = true then (1 : Int) else 0) = ((if rm f = rm g then 1 else 0 : Nat) : Int) := by
      by_cases q : rm f = rm g
      · rw [q]; simp
      · rw [if_neg q, if_neg]; rfl
        rw [beq_iff_eq]; omega
    rw [e, ← Int.natCast_add]
    rfl
theorem str_get {k : Nat} (h : k < 3) : addD (.str "get") (.str (toString (k : Int))) = some (Wd.d (.get (f3 k))) ∧ strD [.int (k : Int)] = some (.str (toString (k : Int))) := by
  have : k = 0 ∨ k = 1 ∨ k = 2 := by omega
  rcases this with rfl | rfl | rfl <;> exact ⟨by kernel_rfl, by kernel_rfl⟩
theorem str_fig {k : Nat} (h : k < 10) : strD [.int (k : Int)] = some (Wd.d (.fig (f10 k))) := by
  have : k = 0 ∨ k = 1 ∨ k = 2 ∨ k = 3 ∨ k = 4 ∨ k = 5 ∨ k = 6 ∨ k = 7 ∨ k = 8 ∨ k = 9 := by omega
  rcases this with rfl | rfl | rfl | rfl | rfl | rfl | rfl | rfl | rfl | rfl <;> kernel_rfl
theorem wd_two (w : Tw) : Wd.d (.two w) = .str w.s := by cases w <;> kernel_rfl
theorem x_words : ∀ (f : Fm) (fuel : Nat), f.Ok → f.dp ≤ 7 → f.dp ≤ fuel → d_words_of fuel [f.D] = .ok (.lst ((wds f).map Wd.d))
  | f, 0, _, _, hf => by have := f.dp_pos; omega
  | .name k, fuel + 1, h, _, _ => by
    obtain ⟨s1, s2⟩ := str_get h
    show d_words_of (fuel + 1) [.tup [.str "name", .int k]] = _
    simp?! [v_words_of, g_words_of, t1_words_of, beq_self_eq_true, s1, s2]
    rfl
  | .num n, fuel + 1, h, _, _ => by
    have s1 := str_fig h
    have n1 : (Str.ofString "number" == Str.ofString "name") = false := by decide +kernel
    show d_words_of (fuel + 1) [.tup [.str "number", .int n]] = _
    simp?! [v_words_of, g_words_of, t1_words_of, t2_words_of, n1, beq_self_eq_true, s1]
    rfl
  | .sign f, fuel + 1, h, hd, hf => by
    have ih := x_words f fuel h (by simp only [Fm.dp] at hd; omega) (by simp only [Fm.dp] at hf; omega)
    have n1 : (Str.ofString "sign" == Str.ofString "name") = false := by decide +kernel
    have n2 : (Str.ofString "sign" == Str.ofString "number") = false := by decide +kernel
    have hl := wds_300 (f := f) (by simp only [Fm.dp] at hd; omega)
    have ad : addD (.lst ((wds f).map Wd.d)) (.lst [.str "sign"]) = some (.lst ((wds f).map Wd.d ++ [.str "sign"])) := add_ll (by simp; omega)
    show d_words_of (fuel + 1) [.tup [.str "sign", f.D]] = _
    simp?! [v_words_of, g_words_of, t1_words_of, t2_words_of, t3_words_of, n1, n2, beq_self_eq_true, ih, ad]
    show _ = Res.ok (D.lst ((wds f ++ [Wd.sign]).map Wd.d))
    rw [List.map_append]
    rfl
  | .two w f g, fuel + 1, h, hd, hf => by
    have i1 := x_words f fuel h.1 (by simp only [Fm.dp] at hd; omega) (by simp only [Fm.dp] at hf; omega)
    have i2 := x_words g fuel h.2 (by simp only [Fm.dp] at hd; omega) (by simp only [Fm.dp] at hf; omega)
    have r1 := x_room f 12 (by simp only [Fm.dp] at hd; omega)
    have r2 := x_room g 12 (by simp only [Fm.dp] at hd; omega)
    obtain ⟨n1, n2, n3⟩ := tw_ne w
    have l1 := wds_300 (f := f) (by simp only [Fm.dp] at hd; omega)
    have l2 := wds_300 (f := g) (by simp only [Fm.dp] at hd; omega)
    have ad1 : addD (.lst ((wds f).map Wd.d)) (.lst ((wds g).map Wd.d)) = some (.lst ((wds f).map Wd.d ++ (wds g).map Wd.d)) := add_ll (by simp; omega)
    have ad2 : addD (.lst ((wds f).map Wd.d ++ (wds g).map Wd.d)) (.lst [.str w.s]) = some (.lst ((wds f).map Wd.d ++ (wds g).map Wd.d ++ [.str w.s])) := add_ll (by simp; omega)
    have ad3 : addD (.lst ((wds g).map Wd.d)) (.lst ((wds f).map Wd.d)) = some (.lst ((wds g).map Wd.d ++ (wds f).map Wd.d)) := add_ll (by simp; omega)
    have ad4 : addD (.lst ((wds g).map Wd.d ++ (wds f).map Wd.d)) (.lst [.str "swap"]) = some (.lst ((wds g).map Wd.d ++ (wds f).map Wd.d ++ [.str "swap"])) := add_ll (by simp; omega)
    have ad5 : addD (.lst ((wds g).map Wd.d ++ (wds f).map Wd.d ++ [.str "swap"])) (.lst [.str w.s]) = some (.lst ((wds g).map Wd.d ++ (wds f).map Wd.d ++ [.str "swap"] ++ [.str w.s])) := add_ll (by simp; omega)
    have ad6 : addD (.lst ((wds g).map Wd.d ++ (wds f).map Wd.d)) (.lst [.str w.s]) = some (.lst ((wds g).map Wd.d ++ (wds f).map Wd.d ++ [.str w.s])) := add_ll (by simp; omega)
    show d_words_of (fuel + 1) [.tup [.str w.s, f.D, g.D]] = .ok (.lst ((if rm g ≤ rm f then wds f ++ wds g ++ [Wd.two w] else wds g ++ wds f ++ (if w = Tw.minus then [Wd.swap] else []) ++ [Wd.two w]).map Wd.d))
    have key : d_words_of (fuel + 1) [.tup [.str w.s, f.D, g.D]] = finR (t4_words_of (d_words_of fuel) [.z (.tup [.str w.s, f.D, g.D]), .z (.str w.s), .u]) := by
      simp?! [v_words_of, g_words_of, t1_words_of, t2_words_of, t3_words_of, n1, n2, n3]
    rw [key]
    by_cases c : rm g ≤ rm f
    · have ec : decide ((rm g : Int) ≤ (rm f : Int)) = true := decide_eq_true (by omega)
      rw [if_pos c]
      simp?! [t4_words_of, r1, r2, ec, i1, i2, ad1, ad2]
      rw [List.map_append, List.map_append, List.map_cons, wd_two]
      rfl
    · have ec : decide ((rm g : Int) ≤ (rm f : Int)) = false := decide_eq_false (by omega)
      rw [if_neg c]
      have key2 : finR (t4_words_of (d_words_of fuel) [.z (.tup [.str w.s, f.D, g.D]), .z (.str w.s), .u]) = finR (t6_words_of (d_words_of fuel) [.z (.tup [.str w.s, f.D, g.D]), .z (.str w.s), .z (.lst ((wds g).map Wd.d ++ (wds f).map Wd.d))]) := by
        simp?! [t4_words_of, t5_words_of, r1, r2, ec, i1, i2, ad3]
      rw [key2]
      by_cases q : w = .minus
      · subst q
        have e : (Tw.minus.s == Str.ofString "minus") = true := by decide +kernel
        rw [if_pos rfl]
        simp?! [t6_words_of, t7_words_of, e, ad4, ad5]
        rw [List.map_append, List.map_append, List.map_append, List.map_cons, List.map_cons, wd_two]
        rfl
      · have e : (w.s == Str.ofString "minus") = false := by
          cases w with
          | minus => exact absurd rfl q
          | plus => decide +kernel
          | times => decide +kernel
        rw [if_neg q, List.append_nil]
        simp?! [t6_words_of, t7_words_of, e, ad6]
        rw [List.map_append, List.map_append, List.map_cons, wd_two]
        rfl
theorem x_leaves : ∀ (f : Fm) (fuel : Nat), f.Ok → f.dp ≤ 7 → f.dp ≤ fuel → d__law_leaves fuel [f.D] = .ok (.lst ((lvs f).map Wd.d))
  | f, 0, _, _, hf => by have := f.dp_pos; omega
  | .name k, fuel + 1, h, _, _ => by
    obtain ⟨s1, s2⟩ := str_get h
    have n1 : (Str.ofString "name" == Str.ofString "number") = false := by decide +kernel
    show d__law_leaves (fuel + 1) [.tup [.str "name", .int k]] = _
    simp?! [v__law_leaves, g__law_leaves, in_leafN, n1, s1, s2]
    rfl
  | .num n, fuel + 1, h, _, _ => by
    have s1 := str_fig h
    have ad : ∃ d, addD (.str "get") (Wd.d (.fig (f10 n))) = some d := by
      generalize f10 n = i
      rcases fin10 i with rfl | rfl | rfl | rfl | rfl | rfl | rfl | rfl | rfl | rfl <;> exact ⟨_, rfl⟩
    obtain ⟨d, ad⟩ := ad
    show d__law_leaves (fuel + 1) [.tup [.str "number", .int n]] = _
    simp?! [v__law_leaves, g__law_leaves, in_leafU, beq_self_eq_true, s1, ad]
    rfl
  | .sign f, fuel + 1, h, hd, hf => by
    have ih := x_leaves f fuel h (by simp only [Fm.dp] at hd; omega) (by simp only [Fm.dp] at hf; omega)
    have hl := wds_300 (f := f) (by simp only [Fm.dp] at hd; omega)
    have hl2 := lvs_len f
    have ad : addD (.lst []) (.lst ((lvs f).map Wd.d)) = some (.lst ((lvs f).map Wd.d)) := add_ll (a := []) (by simp; omega)
    show d__law_leaves (fuel + 1) [.tup [.str "sign", f.D]] = _
    have it := its_tup (f := slc (var 0) (psm (con (.int 1))) pno) (ds := [f.D]) (ρ := [.z (.tup [.str "sign", f.D]), .z (.lst []), .u]) (by simp?! [sl_1])
    have lp : loopD (gn 2) (b1__law_leaves (d__law_leaves fuel)) [f.D] [.z (.tup [.str "sign", f.D]), .z (.lst []), .u] = .nx [.z (.tup [.str "sign", f.D]), .z (.lst ((lvs f).map Wd.d)), .z f.D] := by
      have hb : b1__law_leaves (d__law_leaves fuel) [.z (.tup [.str "sign", f.D]), .z (.lst []), .z f.D] = .nx [.z (.tup [.str "sign", f.D]), .z (.lst ((lvs f).map Wd.d)), .z f.D] := by
        simp?! [b1__law_leaves, ih, ad]
      rw [loop_cons (ρ1 := [.z (.tup [.str "sign", f.D]), .z (.lst []), .z f.D]) rfl hb]
      rfl
    simp?! [v__law_leaves, g__law_leaves, t1__law_leaves, t2__law_leaves, t3__law_leaves, in_leafS, it, lp]
    rfl
  | .two w f g, fuel + 1, h, hd, hf => by
    have i1 := x_leaves f fuel h.1 (by simp only [Fm.dp] at hd; omega) (by simp only [Fm.dp] at hf; omega)
    have i2 := x_leaves g fuel h.2 (by simp only [Fm.dp] at hd; omega) (by simp only [Fm.dp] at hf; omega)
    have l1 := wds_300 (f := f) (by simp only [Fm.dp] at hd; omega)
    have l2 := wds_300 (f := g) (by simp only [Fm.dp] at hd; omega)
    have l3 := lvs_len f
    have l4 := lvs_len g
    have li := in_leafT w
    have ad : addD (.lst []) (.lst ((lvs f).map Wd.d)) = some (.lst ((lvs f).map Wd.d)) := add_ll (a := []) (by simp; omega)
    have ad2 : addD (.lst ((lvs f).map Wd.d)) (.lst ((lvs g).map Wd.d)) = some (.lst ((lvs f).map Wd.d ++ (lvs g).map Wd.d)) := add_ll (by simp; omega)
    show d__law_leaves (fuel + 1) [.tup [.str w.s, f.D, g.D]] = _
    have it := its_tup (f := slc (var 0) (psm (con (.int 1))) pno) (ds := [f.D, g.D]) (ρ := [.z (.tup [.str w.s, f.D, g.D]), .z (.lst []), .u]) (by simp?! [sl_1])
    have lp : loopD (gn 2) (b1__law_leaves (d__law_leaves fuel)) [f.D, g.D] [.z (.tup [.str w.s, f.D, g.D]), .z (.lst []), .u] = .nx [.z (.tup [.str w.s, f.D, g.D]), .z (.lst ((lvs f).map Wd.d ++ (lvs g).map Wd.d)), .z g.D] := by
      have hb : b1__law_leaves (d__law_leaves fuel) [.z (.tup [.str w.s, f.D, g.D]), .z (.lst []), .z f.D] = .nx [.z (.tup [.str w.s, f.D, g.D]), .z (.lst ((lvs f).map Wd.d)), .z f.D] := by
        simp?! [b1__law_leaves, i1, ad]
      have hb2 : b1__law_leaves (d__law_leaves fuel) [.z (.tup [.str w.s, f.D, g.D]), .z (.lst ((lvs f).map Wd.d)), .z g.D] = .nx [.z (.tup [.str w.s, f.D, g.D]), .z (.lst ((lvs f).map Wd.d ++ (lvs g).map Wd.d)), .z g.D] := by
        simp?! [b1__law_leaves, i2, ad2]
      rw [loop_cons (ρ1 := [.z (.tup [.str w.s, f.D, g.D]), .z (.lst []), .z f.D]) rfl hb, loop_cons (ρ1 := [.z (.tup [.str w.s, f.D, g.D]), .z (.lst ((lvs f).map Wd.d)), .z g.D]) rfl hb2]
      rfl
    simp?! [v__law_leaves, g__law_leaves, t1__law_leaves, t2__law_leaves, t3__law_leaves, li, it, lp]
    show _ = Res.ok (D.lst ((lvs f ++ lvs g).map Wd.d))
    rw [List.map_append]
theorem x_row {f : Fm} (h : f.Ok) (hd : f.dp ≤ 7) : d_row_of [f.D] = if rm f ≤ 4 then .ok (.tup ((wds f).map Wd.d)) else .ex "NoRoom" := by
  have r := x_room f 12 (by omega)
  have w := x_words f 12 h hd (by omega)
  have tp : tupD [.lst ((wds f).map Wd.d)] = some (.tup ((wds f).map Wd.d)) := rfl
  by_cases c : rm f ≤ 4
  · have e : decide ((4 : Int) < (rm f : Int)) = false := decide_eq_false (by omega)
    rw [if_pos c]
    simp?! [v_row_of, g_row_of, t1_row_of, r, w, e, tp]
  · have e : decide ((4 : Int) < (rm f : Int)) = true := decide_eq_true (by omega)
    rw [if_neg c]
    simp?! [v_row_of, g_row_of, t1_row_of, r, w, e]
theorem x_lfull : ∀ (fuel : Nat) (n deep : Int), 0 ≤ n → 1 ≤ deep → deep ≤ fuel → ∃ f : Fm, d__law_full fuel [.int n, .int deep] = .ok f.D ∧ f.Ok ∧ (f.dp : Int) ≤ deep
  | 0, n, deep, h0, h1, h2 => by omega
  | fuel + 1, n, deep, h0, h1, h2 => by
    obtain ⟨a, ha, ha2⟩ : ∃ k : Nat, n % 3 = (k : Int) ∧ k < 3 := ⟨(n % 3).toNat, by omega, by omega⟩
    by_cases c1 : deep = 1
    · have e1 : (deep == 1) = true := by simpa using c1
      exact ⟨.name a, by simp?! [v__law_full, g__law_full, e1, ha]; rfl, ha2, by simp [Fm.dp]; omega⟩
    · have e1 : (deep == 1) = false := by simpa using c1
      obtain ⟨d1, p1, p2, _⟩ := x_drawn (n := n) (k := 1) (by omega) (by omega)
      obtain ⟨d2, q1, q2, _⟩ := x_drawn (n := n) (k := 2) (by omega) (by omega)
      obtain ⟨f, f1, f2, f3⟩ := x_lfull fuel (d1 / 4) (deep - 1) (by omega) (by omega) (by omega)
      obtain ⟨g, g1, g2, g3⟩ := x_lfull fuel (d2 / 4) (deep - 1) (by omega) (by omega) (by omega)
      have ix : ∃ w : Tw, ixD (.tup [.str "plus", .str "minus", .str "times"]) (.int (n % 3)) = some (.str w.s) := by
        have k : n % 3 = 0 ∨ n % 3 = 1 ∨ n % 3 = 2 := by omega
        rcases k with k | k | k <;> rw [k]
        · exact ⟨.plus, rfl⟩
        · exact ⟨.minus, rfl⟩
        · exact ⟨.times, rfl⟩
      obtain ⟨w, ix⟩ := ix
      refine ⟨.two w f g, ?_, ⟨f2, g2⟩, by simp only [Fm.dp]; omega⟩
      have key : d__law_full (fuel + 1) [.int n, .int deep] = finR (t2__law_full (d__law_full fuel) [.z (.int n), .z (.int deep), .z f.D]) := by
        simp?! [v__law_full, g__law_full, t1__law_full, e1, p1, f1]
      rw [key]
      unfold t2__law_full
      have i3 : bop ixD (mkT (acons (con (.str "plus")) (acons (con (.str "minus")) (acons (con (.str "times")) anil)))) (bop modD (var 0) (con (.int 3))) [.z (.int n), .z (.int deep), .z f.D] = .ok (.str w.s) := by
        have m3 : modD (.int n) (.int 3) = some (.int (n % 3)) := mod_p (by decide)
        rw [bin_def, bin_def]
        show app2 ixD (.ok (.tup [.str "plus", .str "minus", .str "times"])) (app2 modD (.ok (.int n)) (.ok (.int 3))) = _
        rw [app2_ok, m3, ofO_some, app2_ok, ix, ofO_some]
      rw [sret_def, mkT_def, acons_def, i3]
      simp?! [q1, g1]
      rfl
/-! ### k53 -/
def isLf : Wd → Bool
  | .fig _ => true
  | .get _ => true
  | _ => false
def isTw : Wd → Bool
  | .two _ => true
  | _ => false
theorem wds_perm : ∀ f : Fm, ((wds f).filter isLf).Perm (lvs f)
  | .name _ => List.Perm.refl _
  | .num _ => List.Perm.refl _
  | .sign f => by
    show ((wds f ++ [Wd.sign]).filter isLf).Perm (lvs f)
    rw [List.filter_append]
    show ((wds f).filter isLf ++ []).Perm (lvs f)
    rw [List.append_nil]
    exact wds_perm f
  | .two w f g => by
    have h1 := wds_perm f
    have h2 := wds_perm g
    show ((if rm g ≤ rm f then wds f ++ wds g ++ [Wd.two w] else wds g ++ wds f ++ (if w = Tw.minus then [Wd.swap] else []) ++ [Wd.two w]).filter isLf).Perm (lvs f ++ lvs g)
    split
    · rw [List.filter_append, List.filter_append]
      show ((wds f).filter isLf ++ (wds g).filter isLf ++ []).Perm _
      rw [List.append_nil]
      exact h1.append h2
    · rw [List.filter_append, List.filter_append, List.filter_append]
      have e : (if w = Tw.minus then [Wd.swap] else []).filter isLf = [] := by split <;> rfl
      rw [e]
      show ((wds g).filter isLf ++ (wds f).filter isLf ++ [] ++ []).Perm _
      rw [List.append_nil, List.append_nil]
      exact List.perm_append_comm.trans (h1.append h2)
def leafB : Nat → Nat → Nat
  | _, 0 => 0
  | 0, _ + 1 => 1
  | d + 1, r + 1 => leafB d (r + 1) + leafB d r
theorem leafB_pos : ∀ (d r : Nat), 1 ≤ leafB d (r + 1)
  | 0, _ => Nat.le_refl _
  | d + 1, r => by
    have := leafB_pos d r
    show 1 ≤ leafB d (r + 1) + leafB d r
    omega
theorem lvs_bd : ∀ (f : Fm) (d r : Nat), f.dp ≤ d + 1 → rm f ≤ r → (lvs f).length ≤ leafB d r
  | .name _, d, 0, _, h => by simp [rm] at h
  | .name _, d, r + 1, _, _ => leafB_pos d r
  | .num _, d, 0, _, h => by simp [rm] at h
  | .num _, d, r + 1, _, _ => leafB_pos d r
  | .sign f, d, r, h1, h2 => lvs_bd f d r (by simp only [Fm.dp] at h1; omega) h2
  | .two w f g, d, r, h1, h2 => by
    have p1 := f.dp_pos
    have q1 := rm_pos f
    have q2 := rm_pos g
    have h1 : max f.dp g.dp + 1 ≤ d + 1 := h1
    have h2 : max (rm f) (rm g) + (if rm f = rm g then 1 else 0) ≤ r := h2
    obtain ⟨d, rfl⟩ : ∃ m, d = m + 1 := ⟨d - 1, by omega⟩
    obtain ⟨r, rfl⟩ : ∃ m, r = m + 1 := ⟨r - 1, by omega⟩
    show (lvs f ++ lvs g).length ≤ leafB d (r + 1) + leafB d r
    rw [List.length_append]
    by_cases e : rm g ≤ rm f
    · have a := lvs_bd f d (r + 1) (by omega) (by omega)
      have b := lvs_bd g d r (by omega) (by split at h2 <;> omega)
      omega
    · have a := lvs_bd g d (r + 1) (by omega) (by omega)
      have b := lvs_bd f d r (by omega) (by omega)
      omega
def kw (w : Wd) : Int := (if isLf w = true then 1 else 0) - (if isTw w = true then 1 else 0)
def okk (hi : Int) : Int → List Wd → Prop
  | _, [] => True
  | c, w :: ws => 1 ≤ c + kw w ∧ c + kw w ≤ hi ∧ okk hi (c + kw w) ws
theorem okk_wds (hi : Int) : ∀ (f : Fm) (c : Int) (rest : List Wd), 0 ≤ c → c + rm f ≤ hi → okk hi (c + 1) rest → okk hi c (wds f ++ rest)
  | .name k, c, rest, h0, h1, h2 => by
    have h1 : c + ((1 : Nat) : Int) ≤ hi := h1
    have e : kw (.get (f3 k)) = 1 := rfl
    show 1 ≤ c + kw (.get (f3 k)) ∧ c + kw (.get (f3 k)) ≤ hi ∧ okk hi (c + kw (.get (f3 k))) rest
    rw [e]
    exact ⟨by omega, by omega, h2⟩
  | .num k, c, rest, h0, h1, h2 => by
    have h1 : c + ((1 : Nat) : Int) ≤ hi := h1
    have e : kw (.fig (f10 k)) = 1 := rfl
    show 1 ≤ c + kw (.fig (f10 k)) ∧ c + kw (.fig (f10 k)) ≤ hi ∧ okk hi (c + kw (.fig (f10 k))) rest
    rw [e]
    exact ⟨by omega, by omega, h2⟩
  | .sign f, c, rest, h0, h1, h2 => by
    have h1 : c + (rm f : Int) ≤ hi := h1
    have p := rm_pos f
    show okk hi c ((wds f ++ [Wd.sign]) ++ rest)
    rw [List.append_assoc]
    refine okk_wds hi f c _ h0 h1 ?_
    have e : c + 1 + kw .sign = c + 1 := by show c + 1 + (0 - 0) = c + 1; omega
    show 1 ≤ c + 1 + kw .sign ∧ c + 1 + kw .sign ≤ hi ∧ okk hi (c + 1 + kw .sign) rest
    rw [e]
    exact ⟨by omega, by omega, h2⟩
  | .two w f g, c, rest, h0, h1, h2 => by
    have p1 := rm_pos f
    have p2 := rm_pos g
    have h1 : c + ((max (rm f) (rm g) + (if rm f = rm g then 1 else 0) : Nat) : Int) ≤ hi := h1
    have e : c + 1 + 1 + kw (.two w) = c + 1 := by show c + 1 + 1 + (0 - 1) = c + 1; omega
    have fin : okk hi (c + 1 + 1) ([Wd.two w] ++ rest) := by
      show 1 ≤ c + 1 + 1 + kw (.two w) ∧ c + 1 + 1 + kw (.two w) ≤ hi ∧ okk hi (c + 1 + 1 + kw (.two w)) rest
      rw [e]
      exact ⟨by omega, by split at h1 <;> omega, h2⟩
    show okk hi c ((if rm g ≤ rm f then wds f ++ wds g ++ [Wd.two w] else wds g ++ wds f ++ (if w = Tw.minus then [Wd.swap] else []) ++ [Wd.two w]) ++ rest)
    split
    · rename_i q
      rw [List.append_assoc, List.append_assoc]
      refine okk_wds hi f c _ h0 (by split at h1 <;> omega) (okk_wds hi g (c + 1) _ (by omega) (by split at h1 <;> omega) fin)
    · rename_i q
      rw [List.append_assoc, List.append_assoc, List.append_assoc]
      refine okk_wds hi g c _ h0 (by split at h1 <;> omega) (okk_wds hi f (c + 1) _ (by omega) (by split at h1 <;> omega) ?_)
      split
      · have e2 : c + 1 + 1 + kw .swap = c + 1 + 1 := by show c + 1 + 1 + (0 - 0) = c + 1 + 1; omega
        show 1 ≤ c + 1 + 1 + kw .swap ∧ c + 1 + 1 + kw .swap ≤ hi ∧ okk hi (c + 1 + 1 + kw .swap) ([Wd.two w] ++ rest)
        rw [e2]
        exact ⟨by omega, by split at h1 <;> omega, fin⟩
      · exact fin
def mOk : S7 → List Wd → Prop
  | _, [] => True
  | s, w :: ws => (∀ v, w = .two v → mulD (.int s.y) (.int s.x) = some (.int (s.y * s.x))) ∧ mOk (w.step s) ws
theorem mOk_app : ∀ (a b : List Wd) (s : S7), mOk s a → mOk (runW s a) b → mOk s (a ++ b)
  | [], _, _, _, h => h
  | w :: a, b, s, h1, h2 => ⟨h1.1, mOk_app a b (w.step s) h1.2 h2⟩
theorem runW_app : ∀ (a b : List Wd) (s : S7), runW s (a ++ b) = runW (runW s a) b
  | [], _, _ => rfl
  | w :: a, b, s => runW_app a b (w.step s)
def bxs (s : S7) : List Int := [s.b 0, s.b 1, s.b 2]
structure Post (s : S7) (v : Int) (r : Nat) (s' : S7) : Prop where
  x : s'.x = v
  y : r ≤ 3 → s'.y = s.x
  z : r ≤ 2 → s'.z = s.y
  t : r ≤ 1 → s'.t = s.z
  b : s'.b = s.b
theorem bxs_eq {s s' : S7} (h : s'.b = s.b) : bxs s' = bxs s := by unfold bxs; rw [h]
theorem row_val : ∀ (f : Fm) (s : S7), f.Ok → f.dp ≤ 7 → rm f ≤ 4 → (∀ i, (s.b i).natAbs < 2 ^ 24) → mOk s (wds f) ∧ Post s (f.val (bxs s)) (rm f) (runW s (wds f))
  | .name k, s, h, _, _, _ => by
    have h : k < 3 := h
    refine ⟨⟨fun v e => (by cases e), trivial⟩, ⟨?_, fun _ => rfl, fun _ => rfl, fun _ => rfl, rfl⟩⟩
    show s.b (f3 k) = (bxs s).getD k 0
    have : k = 0 ∨ k = 1 ∨ k = 2 := by omega
    rcases this with rfl | rfl | rfl <;> rfl
  | .num k, s, h, _, _, _ => by
    have h : k < 10 := h
    refine ⟨⟨fun v e => (by cases e), trivial⟩, ⟨?_, fun _ => rfl, fun _ => rfl, fun _ => rfl, rfl⟩⟩
    show (((f10 k).val : Nat) : Int) = (k : Int)
    show ((k % 10 : Nat) : Int) = (k : Int)
    omega
  | .sign f, s, h, hd, hr, hb => by
    obtain ⟨m1, q1⟩ := row_val f s h (by simp only [Fm.dp] at hd; omega) hr hb
    refine ⟨mOk_app _ _ _ m1 ⟨fun v e => (by cases e), trivial⟩, ?_⟩
    show Post s _ (rm f) (runW s (wds f ++ [Wd.sign]))
    rw [runW_app]
    exact ⟨by show -(runW s (wds f)).x = -f.val (bxs s); rw [q1.x], q1.y, q1.z, q1.t, q1.b⟩
  | .two w f g, s, h, hd, hr, hb => by
    have p1 := rm_pos f
    have p2 := rm_pos g
    have hd : max f.dp g.dp + 1 ≤ 7 := hd
    have hr : max (rm f) (rm g) + (if rm f = rm g then 1 else 0) ≤ 4 := hr
    have hbx : ∀ i ∈ bxs s, i.natAbs < 2 ^ 24 := by
      intro i hi
      unfold bxs at hi
      simp only [List.mem_cons, List.not_mem_nil, or_false] at hi
      rcases hi with rfl | rfl | rfl <;> exact hb _
    have bf := val_big hbx h.1 (by omega)
    have bg := val_big hbx h.2 (by omega)
    have eR : rm (.two w f g) = max (rm f) (rm g) + (if rm f = rm g then 1 else 0) := rfl
    show mOk s (if rm g ≤ rm f then wds f ++ wds g ++ [Wd.two w] else wds g ++ wds f ++ (if w = Tw.minus then [Wd.swap] else []) ++ [Wd.two w]) ∧ Post s (w.op (f.val (bxs s)) (g.val (bxs s))) (rm (.two w f g)) (runW s (if rm g ≤ rm f then wds f ++ wds g ++ [Wd.two w] else wds g ++ wds f ++ (if w = Tw.minus then [Wd.swap] else []) ++ [Wd.two w]))
    rw [eR]
    split
    · rename_i q
      obtain ⟨m1, q1⟩ := row_val f s h.1 (by omega) (by split at hr <;> omega) hb
      generalize hs1 : runW s (wds f) = s1 at *
      obtain ⟨m2, q2⟩ := row_val g s1 h.2 (by omega) (by split at hr <;> omega) (by rw [q1.b]; exact hb)
      rw [bxs_eq q1.b] at q2
      generalize hs2 : runW s1 (wds g) = s2 at *
      have ey : s2.y = f.val (bxs s) := (q2.y (by split at hr <;> omega)).trans q1.x
      have mm : mOk s2 [Wd.two w] := ⟨fun v _ => by rw [ey, q2.x]; exact mul_w bf bg, trivial⟩
      refine ⟨mOk_app _ _ _ (mOk_app _ _ _ m1 (by rw [hs1]; exact m2)) (by rw [runW_app, hs1, hs2]; exact mm), ?_⟩
      rw [runW_app, runW_app, hs1, hs2]
      refine ⟨?_, fun h3 => ?_, fun h3 => ?_, fun h3 => ?_, ?_⟩
      · show w.op s2.y s2.x = _
        rw [ey, q2.x]
      · show s2.z = s.x
        exact (q2.z (by split at h3 <;> omega)).trans (q1.y (by split at h3 <;> omega))
      · show s2.t = s.y
        exact (q2.t (by split at h3 <;> omega)).trans (q1.z (by split at h3 <;> omega))
      · exfalso
        split at h3 <;> omega
      · show s2.b = s.b
        exact q2.b.trans q1.b
    · rename_i q
      obtain ⟨m1, q1⟩ := row_val g s h.2 (by omega) (by split at hr <;> omega) hb
      generalize hs1 : runW s (wds g) = s1 at *
      obtain ⟨m2, q2⟩ := row_val f s1 h.1 (by omega) (by split at hr <;> omega) (by rw [q1.b]; exact hb)
      rw [bxs_eq q1.b] at q2
      generalize hs2 : runW s1 (wds f) = s2 at *
      have ey : s2.y = g.val (bxs s) := (q2.y (by split at hr <;> omega)).trans q1.x
      have m3 : mOk s (wds g ++ wds f) := mOk_app _ _ _ m1 (by rw [hs1]; exact m2)
      have r3 : runW s (wds g ++ wds f) = s2 := by rw [runW_app, hs1, hs2]
      by_cases c : w = Tw.minus
      · subst c
        rw [if_pos rfl]
        have m4 : mOk s (wds g ++ wds f ++ [Wd.swap]) := mOk_app _ _ _ m3 ⟨fun v e => (by cases e), trivial⟩
        have r4 : runW s (wds g ++ wds f ++ [Wd.swap]) = Wd.swap.step s2 := by rw [runW_app, r3]; rfl
        have mm : mOk (Wd.swap.step s2) [Wd.two .minus] := ⟨fun v _ => by
          show mulD (.int s2.x) (.int s2.y) = some (.int (s2.x * s2.y))
          rw [ey, q2.x]; exact mul_w bf bg, trivial⟩
        refine ⟨mOk_app _ _ _ m4 (by rw [r4]; exact mm), ?_⟩
        rw [runW_app, r4]
        refine ⟨?_, fun h3 => ?_, fun h3 => ?_, fun h3 => ?_, ?_⟩
        · show s2.x - s2.y = _
          rw [ey, q2.x]; rfl
        · show s2.z = s.x
          exact (q2.z (by split at h3 <;> omega)).trans (q1.y (by split at h3 <;> omega))
        · show s2.t = s.y
          exact (q2.t (by split at h3 <;> omega)).trans (q1.z (by split at h3 <;> omega))
        · exfalso
          split at h3 <;> omega
        · show s2.b = s.b
          exact q2.b.trans q1.b
      · rw [if_neg c, List.append_nil]
        have mm : mOk s2 [Wd.two w] := ⟨fun v _ => by rw [ey, q2.x]; exact mul_w bg bf, trivial⟩
        refine ⟨mOk_app _ _ _ m3 (by rw [r3]; exact mm), ?_⟩
        rw [runW_app, r3]
        refine ⟨?_, fun h3 => ?_, fun h3 => ?_, fun h3 => ?_, ?_⟩
        · show w.op s2.y s2.x = _
          rw [ey, q2.x]
          cases w with
          | minus => exact absurd rfl c
          | plus => exact Int.add_comm _ _
          | times => exact Int.mul_comm _ _
        · show s2.z = s.x
          exact (q2.z (by split at h3 <;> omega)).trans (q1.y (by split at h3 <;> omega))
        · show s2.t = s.y
          exact (q2.t (by split at h3 <;> omega)).trans (q1.z (by split at h3 <;> omega))
        · exfalso
          split at h3 <;> omega
        · show s2.b = s.b
          exact q2.b.trans q1.b
theorem lp_ldone2 {r q : En} : ∀ (ws : List Wd) (s : S7) (w x y z t : En), mOk s ws → ∃ w' x' y' z' t', loopD (gn 4) b1__law_done (ws.map Wd.d) (ldR r q s w x y z t) = .nx (ldR r q (runW s ws) w' x' y' z' t')
  | [], s, w, x, y, z, t, _ => ⟨w, x, y, z, t, loop_nil⟩
  | k :: ws, s, w, x, y, z, t, hm => by
    have hs := ld_step k s r q x y z t hm.1
    obtain ⟨w', x', y', z', t', ih⟩ := lp_ldone2 (r := r) (q := q) ws (k.step s) (.z k.d) (.z (.int s.x)) (.z (.int s.y)) (.z (.int s.z)) (.z (.int s.t)) hm.2
    exact ⟨w', x', y', z', t', by rw [List.map_cons, loop_cons (ρ1 := ldR r q s (.z k.d) x y z t) rfl hs, ih]; rfl⟩
theorem x_ldone2 {ws : List Wd} {s : S7} (hm : mOk s ws) : d__law_done [.tup (ws.map Wd.d), s.D] = .ok (runW s ws).D := by
  obtain ⟨w', x', y', z', t', lp⟩ := lp_ldone2 (r := .z (.tup (ws.map Wd.d))) (q := .z s.D) ws s .u .u .u .u .u hm
  have it := its_tup (f := var 0) (ds := ws.map Wd.d) (ρ := ldR (.z (.tup (ws.map Wd.d))) (.z s.D) s .u .u .u .u .u) rfl
  have k : d__law_done [.tup (ws.map Wd.d), s.D] = finR (t2__law_done (ldR (.z (.tup (ws.map Wd.d))) (.z s.D) s .u .u .u .u .u)) := by rw [v__law_done]; kernel_rfl
  rw [k]
  unfold t2__law_done
  rw [sseq_def, sfor_def, it, forR_ok, lp, seqR_nx]
  kernel_rfl
/-! the law -/
theorem ni_wd (w : Wd) : niD w.d (.tup [.str "plus", .str "minus", .str "times", .str "sign", .str "swap"]) = some (.bl (isLf w || !(isLf w || isTw w || decide (w.l = [115, 105, 103, 110]) || decide (w.l = [115, 119, 97, 112])))) := by
  cases w with
  | fig n => rcases fin10 n with rfl | rfl | rfl | rfl | rfl | rfl | rfl | rfl | rfl | rfl <;> kernel_rfl
  | two w => cases w <;> kernel_rfl
  | put k => rcases fin3 k with rfl | rfl | rfl <;> kernel_rfl
  | get k => rcases fin3 k with rfl | rfl | rfl <;> kernel_rfl
  | _ => kernel_rfl
def inW : Wd → Bool
  | .fig _ => true | .get _ => true | .sign => true | .swap => true | .two _ => true | _ => false
theorem ni_wd2 {w : Wd} (h : inW w = true) : niD w.d (.tup [.str "plus", .str "minus", .str "times", .str "sign", .str "swap"]) = some (.bl (isLf w)) := by
  rw [ni_wd]
  cases w with
  | fig n => rfl
  | two w => rfl
  | get k => rfl
  | sign => rfl
  | swap => rfl
  | enter => cases h
  | roll => cases h
  | put k => cases h
theorem wds_in : ∀ (f : Fm), ∀ w ∈ wds f, inW w = true
  | .name _, w, h => by rcases List.mem_singleton.mp h with rfl; rfl
  | .num _, w, h => by rcases List.mem_singleton.mp h with rfl; rfl
  | .sign f, w, h => by
    rcases List.mem_append.mp h with h | h
    · exact wds_in f w h
    · rcases List.mem_singleton.mp h with rfl; rfl
  | .two v f g, w, h => by
    have h : w ∈ (if rm g ≤ rm f then wds f ++ wds g ++ [Wd.two v] else wds g ++ wds f ++ (if v = Tw.minus then [Wd.swap] else []) ++ [Wd.two v]) := h
    split at h
    · rcases List.mem_append.mp h with h | h
      · rcases List.mem_append.mp h with h | h
        · exact wds_in f w h
        · exact wds_in g w h
      · rcases List.mem_singleton.mp h with rfl; rfl
    · rcases List.mem_append.mp h with h | h
      · rcases List.mem_append.mp h with h | h
        · rcases List.mem_append.mp h with h | h
          · exact wds_in g w h
          · exact wds_in f w h
        · split at h
          · rcases List.mem_singleton.mp h with rfl; rfl
          · cases h
      · rcases List.mem_singleton.mp h with rfl; rfl
theorem in_two (w : Wd) : inD w.d (.tup [.str "plus", .str "minus", .str "times"]) = some (.bl (isTw w)) := by
  cases w with
  | fig n => rcases fin10 n with rfl | rfl | rfl | rfl | rfl | rfl | rfl | rfl | rfl | rfl <;> kernel_rfl
  | two w => cases w <;> kernel_rfl
  | put k => rcases fin3 k with rfl | rfl | rfl <;> kernel_rfl
  | get k => rcases fin3 k with rfl | rfl | rfl <;> kernel_rfl
  | _ => kernel_rfl
theorem S_eq {a b : List Nat} : (S a == S b) = decide (a = b) := by
  rw [Bool.eq_iff_iff, beq_iff_eq, decide_eq_true_eq]
  constructor
  · intro h
    have h : (⟨a.toArray⟩ : Str) = ⟨b.toArray⟩ := h
    injection h with h
    simpa using h
  · rintro rfl; rfl
theorem lf_ne {v w : Wd} (hv : isLf v = true) (hw : isLf w = false) (hi : inW w = true) : (S v.l == S w.l) = false := by
  rw [S_eq, decide_eq_false_iff_not]
  cases v with
  | fig n =>
    cases w with
    | two u => cases u <;> simp [Wd.l]
    | fig _ => cases hw
    | get _ => cases hw
    | enter => cases hi
    | roll => cases hi
    | put _ => cases hi
    | sign => simp [Wd.l]
    | swap => simp [Wd.l]
  | get n =>
    cases w with
    | two u => cases u <;> simp [Wd.l]
    | fig _ => cases hw
    | get _ => cases hw
    | enter => cases hi
    | roll => cases hi
    | put _ => cases hi
    | sign => simp [Wd.l]
    | swap => simp [Wd.l]
  | _ => cases hv
theorem in_anyL {ss : List Str} {x : Str} : inD (.str x) (.lst (ss.map D.str)) = some (.bl (ss.any (· == x))) := by
  have key : DN.inL (.str x) (ss.map D.str) = some (ss.any (· == x)) := by
    unfold DN.inL
    rw [if_pos]
    · congr 1
      rw [List.any_map]
      rfl
    · rw [List.all_map]
      simp [DN.flatD]
  show (DN.inL (.str x) (ss.map D.str)).map D.bl = _
  rw [key]; rfl
theorem map_S (ws : List Wd) : ws.map Wd.d = (ws.map fun w => S w.l).map D.str := by rw [List.map_map]; rfl
theorem in_plain {ws : List Wd} {w : Wd} (hw : w ∈ ws) (hi : inW w = true) : inD w.d (.lst ((ws.filter isLf).map Wd.d)) = some (.bl (isLf w)) := by
  have h := in_anyL (ss := (ws.filter isLf).map fun w => S w.l) (x := S w.l)
  rw [← map_S] at h
  have h : inD w.d (.lst ((ws.filter isLf).map Wd.d)) = _ := h
  rw [h]
  congr 2
  cases e : isLf w with
  | true =>
    rw [List.any_eq_true]
    exact ⟨S w.l, List.mem_map.mpr ⟨w, List.mem_filter.mpr ⟨hw, e⟩, rfl⟩, beq_self_eq_true _⟩
  | false =>
    rw [List.any_eq_false]
    intro x hx
    obtain ⟨v, hv, rfl⟩ := List.mem_map.mp hx
    rw [lf_ne (List.mem_filter.mp hv).2 e hi]
    decide
theorem lc_plain {ρ : Rho} (hρ : 7 < ρ.length) : ∀ (ws : List Wd), (∀ w ∈ ws, inW w = true) → compD (gn 7) (tst (bop niD (var 7) (mkT (acons (con (.str "plus")) (acons (con (.str "minus")) (acons (con (.str "times")) (acons (con (.str "sign")) (acons (con (.str "swap")) anil)))))))) e1_law ρ (ws.map Wd.d) = .ok ((ws.filter isLf).map Wd.d)
  | [], _ => rfl
  | w :: ws, h => by
    have ih := lc_plain hρ ws fun v hv => h v (List.mem_cons_of_mem _ hv)
    have v7 : var 7 (ρ.set 7 (.z w.d)) = .ok w.d := by
      unfold var
      rw [List.getElem?_set_self hρ]
    have t7 : tst (bop niD (var 7) (mkT (acons (con (.str "plus")) (acons (con (.str "minus")) (acons (con (.str "times")) (acons (con (.str "sign")) (acons (con (.str "swap")) anil))))))) (ρ.set 7 (.z w.d)) = .ok (isLf w) := by
      have hn := ni_wd2 (h w List.mem_cons_self)
      simp?! [v7, hn]
    rw [List.map_cons]
    cases e : isLf w with
    | true =>
      rw [e] at t7
      rw [List.filter_cons_of_pos e, List.map_cons]
      exact comp_t (show gn 7 ρ w.d = some (ρ.set 7 (.z w.d)) from rfl) t7 v7 ih
    | false =>
      rw [e] at t7
      rw [List.filter_cons_of_neg (by rw [e]; decide)]
      rw [comp_f (show gn 7 ρ w.d = some (ρ.set 7 (.z w.d)) from rfl) t7]
      exact ih
theorem wd_so (w : Wd) : PyData.strOk (S w.l) = true := by
  cases w with
  | fig n => rcases fin10 n with rfl | rfl | rfl | rfl | rfl | rfl | rfl | rfl | rfl | rfl <;> decide +kernel
  | two w => cases w <;> decide +kernel
  | put k => rcases fin3 k with rfl | rfl | rfl <;> decide +kernel
  | get k => rcases fin3 k with rfl | rfl | rfl <;> decide +kernel
  | _ => decide +kernel
theorem plains_strs (n : Nat) : ∀ (l : List Str), (∀ s ∈ l, PyData.strOk s = true) → DN.plains n (l.map D.str) = true
  | [], _ => by unfold DN.plains; rfl
  | a :: l, h => by
    show (DN.plain n (.str a) && DN.plains n (l.map D.str)) = true
    have h1 : DN.plain n (.str a) = true := by
      have := h a List.mem_cons_self
      cases n <;> exact this
    rw [h1, plains_strs n l fun s hs => h s (List.mem_cons_of_mem _ hs)]
    rfl
theorem keep_loop {a b c d e r : En} {all : List Wd} {due : Int} {k1 s1 m1 : En} : ∀ (ws : List Wd) (n : Int) (w : En), (∀ w ∈ ws, w ∈ all ∧ inW w = true) → okk due n ws → ∃ w' n', loopD (gn 7) b2_law (ws.map Wd.d) [a, b, c, .z (.int due), e, r, .z (.lst ((all.filter isLf).map Wd.d)), w, .z (.int n), k1, s1, m1] = .nx [a, b, c, .z (.int due), e, r, .z (.lst ((all.filter isLf).map Wd.d)), w', n', k1, s1, m1]
  | [], n, w, _, _ => ⟨w, _, loop_nil⟩
  | v :: ws, n, w, h, ⟨o1, o2, o3⟩ => by
    obtain ⟨w', n', ih⟩ := keep_loop (a := a) (b := b) (c := c) (d := d) (e := e) (r := r) (all := all) (due := due) (k1 := k1) (s1 := s1) (m1 := m1) ws (n + kw v) (.z v.d) (fun x hx => h x (List.mem_cons_of_mem _ hx)) o3
    obtain ⟨h1, h2⟩ := h v List.mem_cons_self
    have i1 := in_plain h1 h2
    have i2 := in_two v
    refine ⟨w', n', ?_⟩
    have ek : n + (if isLf v = true then 1 else 0) - (if isTw v = true then 1 else 0) = n + kw v := by unfold kw; omega
    have ec : (decide (1 ≤ n + kw v) && decide (n + kw v ≤ due)) = true := by rw [decide_eq_true o1, decide_eq_true o2]; rfl
    have hb : b2_law [a, b, c, .z (.int due), e, r, .z (.lst ((all.filter isLf).map Wd.d)), .z v.d, .z (.int n), k1, s1, m1] = .nx [a, b, c, .z (.int due), e, r, .z (.lst ((all.filter isLf).map Wd.d)), .z v.d, .z (.int (n + kw v)), k1, s1, m1] := by
      simp?! [b2_law, i1, i2, ek, ec]
    rw [List.map_cons, loop_cons (ρ1 := [a, b, c, .z (.int due), e, r, .z (.lst ((all.filter isLf).map Wd.d)), .z v.d, .z (.int n), k1, s1, m1]) rfl hb, ih]
theorem law_true (ns : List Int) (h : ns.length ≤ 63) (hz : ∀ z ∈ ns, Builtin.Int.intBits z ≤ 1048576) : d_law [.arr ns] = .ok (.bl true) := by
  obtain ⟨m0, e0, g0, _⟩ := x_mixed (ns := ns) (k := 0) (by omega) (by omega)
  obtain ⟨m1, e1, g1, _⟩ := x_mixed (ns := ns) (k := 1) (by omega) (by omega)
  obtain ⟨f, f1, f2, f3⟩ := x_lformula 12 m1 (1 + m0 % 7) g1 (by omega) (by omega)
  obtain ⟨g, h1, h2, h3⟩ := x_lfull 12 m1 (1 + m0 / 64 % 6) g1 (by omega) (by omega)
  have key : ∃ f : Fm, f.Ok ∧ f.dp ≤ 7 ∧ d_law [.arr ns] = finR (t3_law [.z (.arr ns), .z (.int m0), .z f.D, .u, .u, .u, .u, .u, .u, .u, .u, .u]) := by
    by_cases c : m0 / 8 % 3 = 1
    · have ec : (m0 / 8 % 3 == 1) = true := by simpa using c
      exact ⟨g, h2, by omega, by simp?! [v_law, g_law, t1_law, t2_law, e0, e1, f1, ec, h1]⟩
    · have ec : (m0 / 8 % 3 == 1) = false := by simpa using c
      exact ⟨f, f2, by omega, by simp?! [v_law, g_law, t1_law, t2_law, e0, e1, f1, ec]⟩
  clear f1 f2 f3 h1 h2 h3
  obtain ⟨f, f2, f3, key⟩ := key
  rw [key]
  have r1 := x_room f 12 (by omega)
  have r2 := x_lroom f 12 (by omega)
  have rw1 := x_row f2 f3
  have ne1 : neD (.int (rm f : Int)) (.int (rm f : Int)) = some (.bl false) := by rw [ne_ii, beq_self_eq_true]; rfl
  by_cases c : rm f ≤ 4
  · rw [if_pos c] at rw1
    have ec : decide ((4 : Int) < (rm f : Int)) = false := decide_eq_false (by omega)
    have tr : toldR (.ok (.tup ((wds f).map Wd.d))) = .ok (.tup [.str "told", .tup ((wds f).map Wd.d)]) := rfl
    have key2 : finR (t3_law [.z (.arr ns), .z (.int m0), .z f.D, .u, .u, .u, .u, .u, .u, .u, .u, .u]) = finR (t8_law [.z (.arr ns), .z (.int m0), .z f.D, .z (.int (rm f : Int)), .z (.tup [.str "told", .tup ((wds f).map Wd.d)]), .z (.tup ((wds f).map Wd.d)), .u, .u, .u, .u, .u, .u]) := by
      simp?! [t3_law, t4_law, t5_law, t6_law, t7_law, r1, r2, ne1, isi_i kit_ib, told_def, rw1, tr, ec]
    rw [key2]
    have it := its_tup (f := var 5) (ds := (wds f).map Wd.d) (ρ := [.z (.arr ns), .z (.int m0), .z f.D, .z (.int (rm f : Int)), .z (.tup [.str "told", .tup ((wds f).map Wd.d)]), .z (.tup ((wds f).map Wd.d)), .u, .u, .u, .u, .u, .u]) rfl
    have l300 := wds_300 f3
    have lc := lc_eq it (by rw [List.length_map]; omega) (lc_plain (ρ := [.z (.arr ns), .z (.int m0), .z f.D, .z (.int (rm f : Int)), .z (.tup [.str "told", .tup ((wds f).map Wd.d)]), .z (.tup ((wds f).map Wd.d)), .u, .u, .u, .u, .u, .u]) (by simp) (wds f) (wds_in f))
    have pm := wds_perm f
    have lb := lvs_bd f 6 4 (by omega) c
    have lb : (lvs f).length ≤ 42 := Nat.le_trans lb (by decide)
    have so1 := sort_ok (xs := ((wds f).filter isLf).map fun w => S w.l) (by rw [List.length_map, pm.length_eq]; omega)
    have so2 := sort_ok (xs := (lvs f).map fun w => S w.l) (by rw [List.length_map]; omega)
    rw [sortS_perm (pm.map fun w => S w.l), ← map_S] at so1
    rw [← map_S] at so2
    have lv := x_leaves f 12 f2 f3 (by omega)
    have ne2 : neD (.lst ((sortS ((lvs f).map fun w => S w.l)).map D.str)) (.lst ((sortS ((lvs f).map fun w => S w.l)).map D.str)) = some (.bl false) := by
      refine ne_same (show DN.plains 63 _ = true from plains_strs 63 _ fun s hs => ?_)
      have hs := (List.mergeSort_perm ((lvs f).map fun w => S w.l) leS).mem_iff.mp hs
      obtain ⟨w, _, rfl⟩ := List.mem_map.mp hs
      exact wd_so w
    have nt : neD (.str "told") (.str "told") = some (.bl false) := by rw [ne_ss, beq_self_eq_true]; rfl
    have key3 : finR (t8_law [.z (.arr ns), .z (.int m0), .z f.D, .z (.int (rm f : Int)), .z (.tup [.str "told", .tup ((wds f).map Wd.d)]), .z (.tup ((wds f).map Wd.d)), .u, .u, .u, .u, .u, .u]) = finR (t11_law [.z (.arr ns), .z (.int m0), .z f.D, .z (.int (rm f : Int)), .z (.tup [.str "told", .tup ((wds f).map Wd.d)]), .z (.tup ((wds f).map Wd.d)), .z (.lst (((wds f).filter isLf).map Wd.d)), .u, .z (.int 0), .u, .u, .u]) := by
      simp?! [t8_law, t9_law, t10_law, lc, nt, isi_t kit_tt, so1, so2, lv, ne2]
    rw [key3]
    have ok := okk_wds (rm f : Int) f 0 [] (by decide) (by omega) trivial
    rw [List.append_nil] at ok
    obtain ⟨w', n', lp⟩ := keep_loop (a := .z (.arr ns)) (b := .z (.int m0)) (c := .z f.D) (d := .u) (e := .z (.tup [.str "told", .tup ((wds f).map Wd.d)])) (r := .z (.tup ((wds f).map Wd.d))) (all := wds f) (due := (rm f : Int)) (k1 := .u) (s1 := .u) (m1 := .u) (wds f) 0 .u (fun w hw => ⟨hw, wds_in f w hw⟩) ok
    have it2 := its_tup (f := var 5) (ds := (wds f).map Wd.d) (ρ := [.z (.arr ns), .z (.int m0), .z f.D, .z (.int (rm f : Int)), .z (.tup [.str "told", .tup ((wds f).map Wd.d)]), .z (.tup ((wds f).map Wd.d)), .z (.lst (((wds f).filter isLf).map Wd.d)), .u, .z (.int 0), .u, .u, .u]) rfl
    have b3 : ∀ (k : Int) (x y z : En), 0 ≤ k → k < 1000 → ∃ y' z', b3_law [.z (.arr ns), .z (.int m0), .z f.D, .z (.int (rm f : Int)), .z (.tup [.str "told", .tup ((wds f).map Wd.d)]), .z (.tup ((wds f).map Wd.d)), .z (.lst (((wds f).filter isLf).map Wd.d)), w', n', .z (.int k), y, z] = .nx [.z (.arr ns), .z (.int m0), .z f.D, .z (.int (rm f : Int)), .z (.tup [.str "told", .tup ((wds f).map Wd.d)]), .z (.tup ((wds f).map Wd.d)), .z (.lst (((wds f).filter isLf).map Wd.d)), w', n', .z (.int k), y', z'] := by
      intro k x y z k0 k1
      obtain ⟨mk, ek, gk, _⟩ := x_mixed (ns := ns) (k := k) (by omega) (by omega)
      obtain ⟨s, s1, s2⟩ := x_lsetting (n := mk)
      obtain ⟨q1, q2⟩ := row_val f s f2 f3 c s1.2.2.2.2
      have ld := x_ldone2 q1
      generalize runW s (wds f) = s' at *
      have hbx : ∀ i ∈ bxs s, i.natAbs < 2 ^ 24 := by
        intro i hi
        unfold bxs at hi
        simp only [List.mem_cons, List.not_mem_nil, or_false] at hi
        rcases hi with rfl | rfl | rfl <;> exact s1.2.2.2.2 _
      have lv := x_lvalue (bx := bxs s) rfl hbx f 12 f2 (by omega) (by omega)
      have sl1 : slD s.D (some 4) none = some (.tup ((bxs s).map D.int)) := by kernel_rfl
      have sl2 : slD s'.D (some 4) none = some (.tup ((bxs s').map D.int)) := by kernel_rfl
      rw [bxs_eq q2.b] at sl2
      have ix : ixD s'.D (.int 0) = some (.int s'.x) := by kernel_rfl
      rw [q2.x] at ix
      have n1 : neD (.int (f.val (bxs s))) (.int (f.val (bxs s))) = some (.bl false) := by rw [ne_ii, beq_self_eq_true]; rfl
      have n2 : neD (.tup ((bxs s).map D.int)) (.tup ((bxs s).map D.int)) = some (.bl false) := ne_same (by unfold bxs; rfl)
      exact ⟨.z s.D, .z s'.D, by simp?! [b3_law, ek, s2, ld, sl1, sl2, ix, lv, n1, n2]⟩
    obtain ⟨y2, z2, b32⟩ := b3 2 .u .u .u (by decide) (by decide)
    obtain ⟨y3, z3, b33⟩ := b3 3 .u y2 z2 (by decide) (by decide)
    have it3 := its_tup (f := mkT (acons (con (.int 2)) (acons (con (.int 3)) anil))) (ds := [.int 2, .int 3]) (ρ := [.z (.arr ns), .z (.int m0), .z f.D, .z (.int (rm f : Int)), .z (.tup [.str "told", .tup ((wds f).map Wd.d)]), .z (.tup ((wds f).map Wd.d)), .z (.lst (((wds f).filter isLf).map Wd.d)), w', n', .u, .u, .u]) (by simp?! [])
    have lp3 : loopD (gn 9) b3_law [.int 2, .int 3] [.z (.arr ns), .z (.int m0), .z f.D, .z (.int (rm f : Int)), .z (.tup [.str "told", .tup ((wds f).map Wd.d)]), .z (.tup ((wds f).map Wd.d)), .z (.lst (((wds f).filter isLf).map Wd.d)), w', n', .u, .u, .u] = .nx [.z (.arr ns), .z (.int m0), .z f.D, .z (.int (rm f : Int)), .z (.tup [.str "told", .tup ((wds f).map Wd.d)]), .z (.tup ((wds f).map Wd.d)), .z (.lst (((wds f).filter isLf).map Wd.d)), w', n', .z (.int 3), y3, z3] := by
      rw [loop_cons (ρ1 := [.z (.arr ns), .z (.int m0), .z f.D, .z (.int (rm f : Int)), .z (.tup [.str "told", .tup ((wds f).map Wd.d)]), .z (.tup ((wds f).map Wd.d)), .z (.lst (((wds f).filter isLf).map Wd.d)), w', n', .z (.int 2), .u, .u]) rfl b32,
        loop_cons (ρ1 := [.z (.arr ns), .z (.int m0), .z f.D, .z (.int (rm f : Int)), .z (.tup [.str "told", .tup ((wds f).map Wd.d)]), .z (.tup ((wds f).map Wd.d)), .z (.lst (((wds f).filter isLf).map Wd.d)), w', n', .z (.int 3), y2, z2]) rfl b33]
      rfl
    simp?! [t11_law, t12_law, t13_law, it2, lp, it3, lp3]
  · rw [if_neg c] at rw1
    have ec : decide ((4 : Int) < (rm f : Int)) = true := decide_eq_true (by omega)
    have tr : toldR (.ex "NoRoom") = .ok (.tup [.str "refused", .int 4]) := rfl
    have n5 := eq_same (d := .tup [.str "refused", .int 4]) pl_ref
    simp?! [t3_law, t4_law, t5_law, t6_law, r1, r2, ne1, isi_i kit_ib, told_def, rw1, tr, ec, n5]
def dd_room : He.DefD := ⟨("room", none), "room", "room", defArgs s_room, defBody s_room, defScope s_room, [], []⟩
def dd_words_of : He.DefD := ⟨("words_of", none), "words_of", "words_of", defArgs s_words_of, defBody s_words_of, defScope s_words_of, [], []⟩
def dd_row_of : He.DefD := ⟨("row_of", none), "row_of", "row_of", defArgs s_row_of, defBody s_row_of, defScope s_row_of, [], []⟩
def dd__law_cell_at : He.DefD := ⟨("_law_cell_at", none), "_law_cell_at", "_law_cell_at", defArgs s__law_cell_at, defBody s__law_cell_at, defScope s__law_cell_at, [], []⟩
def dd__law_mixed : He.DefD := ⟨("_law_mixed", none), "_law_mixed", "_law_mixed", defArgs s__law_mixed, defBody s__law_mixed, defScope s__law_mixed, [], []⟩
def dd__law_drawn : He.DefD := ⟨("_law_drawn", none), "_law_drawn", "_law_drawn", defArgs s__law_drawn, defBody s__law_drawn, defScope s__law_drawn, [], []⟩
def dd__law_formula : He.DefD := ⟨("_law_formula", none), "_law_formula", "_law_formula", defArgs s__law_formula, defBody s__law_formula, defScope s__law_formula, [], []⟩
def dd__law_full : He.DefD := ⟨("_law_full", none), "_law_full", "_law_full", defArgs s__law_full, defBody s__law_full, defScope s__law_full, [], []⟩
def dd__law_value : He.DefD := ⟨("_law_value", none), "_law_value", "_law_value", defArgs s__law_value, defBody s__law_value, defScope s__law_value, [], []⟩
def dd__law_setting : He.DefD := ⟨("_law_setting", none), "_law_setting", "_law_setting", defArgs s__law_setting, defBody s__law_setting, defScope s__law_setting, [], []⟩
def dd__law_done : He.DefD := ⟨("_law_done", none), "_law_done", "_law_done", defArgs s__law_done, defBody s__law_done, defScope s__law_done, [], []⟩
def dd__law_told : He.DefD := ⟨("_law_told", none), "_law_told", "_law_told", defArgs s__law_told, defBody s__law_told, defScope s__law_told, [], []⟩
def dd__law_leaves : He.DefD := ⟨("_law_leaves", none), "_law_leaves", "_law_leaves", defArgs s__law_leaves, defBody s__law_leaves, defScope s__law_leaves, [], []⟩
def dd__law_room : He.DefD := ⟨("_law_room", none), "_law_room", "_law_room", defArgs s__law_room, defBody s__law_room, defScope s__law_room, [], []⟩
def dd_law : He.DefD := ⟨("law", none), "law", "law", defArgs s_law, defBody s_law, defScope s_law, [], []⟩
def fn : List He.DefD := [dd_room, dd_words_of, dd_row_of, dd__law_cell_at, dd__law_mixed, dd__law_drawn, dd__law_formula, dd__law_full, dd__law_value, dd__law_setting, dd__law_done, dd__law_told, dd__law_leaves, dd__law_room, dd_law]
def fa : List He.Fa := [.glo "room", .glo "words_of", .glo "row_of", .glo "_law_cell_at", .glo "_law_mixed", .glo "_law_drawn", .glo "_law_formula", .glo "_law_full", .glo "_law_value", .glo "_law_setting", .glo "_law_done", .glo "_law_told", .glo "_law_leaves", .glo "_law_room", .glo "law", .free "max", .free "int", .free "str", .free "tuple", .free "len", .free "range", .free "list", .free "bool", .free "isinstance", .free "sorted", .int "ROOM" (4), .glo "NoRoom", .exc "NoRoom", .glo "TooGreat", .glo "NoText", .glo "NoDeed", .glo "NoKey", .glo "PileError", .free "ValueError"]
def ts : List He.Tab := []
def tf : List He.Defn := [("law", none)]
def ex (K : PySem.W.Frag) : Bool := (toldB K && (huB K "law" && true))
abbrev R : PySem.W.OpenRow := PySem.W.OpenLaw.row PySem.Challenge.rw_pocketpile_k53_whole_rows_of_formulas
abbrev hk : PySem.W.Hook := He.hookX 5 fa fn ts tf ex
def ob (s : PySem.W.SharedT) : He.AlX := He.obsX 5 fa fn ts tf ex (HandSHeadRun.getT s)
theorem ob_eq (s : PySem.W.SharedT) : ob s = hk.obs s.abs := He.obsX_eq (HandSHeadRun.getT_eq s)
def names : List PySem.Str := (["PileError", "TooGreat", "NoText", "NoDeed", "NoKey", "NoRoom", "ROOM", "room", "words_of", "row_of", "_law_cell_at", "_law_mixed", "_law_drawn", "_law_formula", "_law_full", "_law_value", "_law_plain", "_law_setting", "_law_done", "_law_told"] : List PySem.Str) ++ (["_law_leaves", "_law_room"] : List PySem.Str)
theorem run (w : World) : HandSHeadRun.RunEq R (PySem.W.view R.prog [25]) hk ob 3000 names w := by
  intro os
  kernel_rfl
theorem top_of {w : World} {K : PySem.W.Frag} {h : Heap} {mg : Str → Option Value} (X : K.In h) (G : h.Ns mainGlobals mg) (c : He.SaysX fa fn ts tf ex w h K) : Top w K mg :=
  ⟨(c.t.d.def_ 0 (d := dd_room) rfl),
   (He.glo_ok X G (c.t.d.fact 0 (f := .glo "room") rfl)),
   (c.t.d.def_ 1 (d := dd_words_of) rfl),
   (He.glo_ok X G (c.t.d.fact 1 (f := .glo "words_of") rfl)),
   (c.t.d.def_ 2 (d := dd_row_of) rfl),
   (He.glo_ok X G (c.t.d.fact 2 (f := .glo "row_of") rfl)),
   (c.t.d.def_ 3 (d := dd__law_cell_at) rfl),
   (He.glo_ok X G (c.t.d.fact 3 (f := .glo "_law_cell_at") rfl)),
   (c.t.d.def_ 4 (d := dd__law_mixed) rfl),
   (He.glo_ok X G (c.t.d.fact 4 (f := .glo "_law_mixed") rfl)),
   (c.t.d.def_ 5 (d := dd__law_drawn) rfl),
   (He.glo_ok X G (c.t.d.fact 5 (f := .glo "_law_drawn") rfl)),
   (c.t.d.def_ 6 (d := dd__law_formula) rfl),
   (He.glo_ok X G (c.t.d.fact 6 (f := .glo "_law_formula") rfl)),
   (c.t.d.def_ 7 (d := dd__law_full) rfl),
   (He.glo_ok X G (c.t.d.fact 7 (f := .glo "_law_full") rfl)),
   (c.t.d.def_ 8 (d := dd__law_value) rfl),
   (He.glo_ok X G (c.t.d.fact 8 (f := .glo "_law_value") rfl)),
   (c.t.d.def_ 9 (d := dd__law_setting) rfl),
   (He.glo_ok X G (c.t.d.fact 9 (f := .glo "_law_setting") rfl)),
   (c.t.d.def_ 10 (d := dd__law_done) rfl),
   (He.glo_ok X G (c.t.d.fact 10 (f := .glo "_law_done") rfl)),
   (c.t.d.def_ 11 (d := dd__law_told) rfl),
   (He.glo_ok X G (c.t.d.fact 11 (f := .glo "_law_told") rfl)),
   (c.t.d.def_ 12 (d := dd__law_leaves) rfl),
   (He.glo_ok X G (c.t.d.fact 12 (f := .glo "_law_leaves") rfl)),
   (c.t.d.def_ 13 (d := dd__law_room) rfl),
   (He.glo_ok X G (c.t.d.fact 13 (f := .glo "_law_room") rfl)),
   (c.t.d.def_ 14 (d := dd_law) rfl),
   (He.glo_ok X G (c.t.d.fact 14 (f := .glo "law") rfl)),
   (He.free_ok X G (c.t.d.fact 15 (f := .free "max") rfl)),
   (He.free_ok X G (c.t.d.fact 16 (f := .free "int") rfl)),
   (He.free_ok X G (c.t.d.fact 17 (f := .free "str") rfl)),
   (He.free_ok X G (c.t.d.fact 18 (f := .free "tuple") rfl)),
   (He.free_ok X G (c.t.d.fact 19 (f := .free "len") rfl)),
   (He.free_ok X G (c.t.d.fact 20 (f := .free "range") rfl)),
   (He.free_ok X G (c.t.d.fact 21 (f := .free "list") rfl)),
   (He.free_ok X G (c.t.d.fact 22 (f := .free "bool") rfl)),
   (He.free_ok X G (c.t.d.fact 23 (f := .free "isinstance") rfl)),
   (He.free_ok X G (c.t.d.fact 24 (f := .free "sorted") rfl)),
   (He.int_ok X G (c.t.d.fact 25 (f := .int "ROOM" (4)) rfl)),
   (exc_n X G (c.t.d.fact 26 (f := .glo "NoRoom") rfl) (c.t.d.fact 27 (f := .exc "NoRoom") rfl)),
   (told_c (toldB_ok (He.ba c.more).1) (He.glo_ok X G (c.t.d.fact 28 (f := .glo "TooGreat") rfl)) (He.glo_ok X G (c.t.d.fact 29 (f := .glo "NoText") rfl)) (He.glo_ok X G (c.t.d.fact 30 (f := .glo "NoDeed") rfl)) (He.glo_ok X G (c.t.d.fact 31 (f := .glo "NoKey") rfl)) (He.glo_ok X G (c.t.d.fact 26 (f := .glo "NoRoom") rfl)) (He.glo_ok X G (c.t.d.fact 32 (f := .glo "PileError") rfl)) (He.free_ok X G (c.t.d.fact 23 (f := .free "isinstance") rfl)) (He.free_ok X G (c.t.d.fact 33 (f := .free "ValueError") rfl))),
   (huB_ok (He.ba (He.ba c.more).2).1)⟩
theorem law_end {l : PySem.W.OpenLaw} {w : World} {K : PySem.W.Frag} {h : Heap} {mg : Str → Option Value} {f : Addr} (X : K.In h) (G : h.Ns mainGlobals mg) (hfa : mg ("law" : Str) = some (.ref f)) (c : He.SaysX fa fn ts tf ex w h K) : LamX.LawAtS l w K (L2.CX l.prog w) 30 63 "script" mg f h := by
  have Z := top_of X G c
  have e := hfa.symm.trans Z.m_law
  cases e
  obtain ⟨fd, Fd⟩ := Z.f_law
  have b := FunD.bindsA (ps := ["script"]) Fd fun _ _ _ _ _ _ us hl => match us, hl with | [_], _ => rfl
  refine lawAtT (T := tabT K) (tf := tf) X c.hd c.out c.empty (fun p hp => ?_) (fd := fd) (den := d_law) (fun s v => b s [v] rfl) law_true fun base h1 h2 h3 => ?_
  · unfold tabT at hp
    simp only [List.mem_cons, List.not_mem_nil, or_false] at hp
    rcases hp with rfl
    · exact ⟨("law", none), by unfold tf; simp, rfl⟩
  · exact law_fn Z h3 Fd
end LW
open PySem PySem.W PySem.Calls PyProof.Rows
set_option maxRecDepth 100000 in
set_option maxHeartbeats 0 in
theorem PySem.Challenge.cw_pocketpile_k53_whole_rows_of_formulas_holds : PySem.Challenge.rw_pocketpile_k53_whole_rows_of_formulas.Holds := by
  w_on; o_law
  refine HandSHeadRun.head_any (r := OpenLaw.row PySem.Challenge.rw_pocketpile_k53_whole_rows_of_formulas) (q := view (OpenLaw.row PySem.Challenge.rw_pocketpile_k53_whole_rows_of_formulas).prog [25]) (H := LW.hk) (ob := LW.ob) (M := 3000) (loose := LW.names) (d := HandSHeadRun.topDef (OpenLaw.row PySem.Challenge.rw_pocketpile_k53_whole_rows_of_formulas).prog 25) (kwd := []) LW.ob_eq
    (by kernel_rfl) (fun s => by kernel_rfl) LW.run (by kernel_rfl) (by kernel_rfl) (by kernel_rfl) (by rfl) (by first | assumption | decide +kernel) (by decide +kernel) ⟨rfl, rfl, rfl, rfl, rfl, by decide +kernel⟩ ?hw ?hc
  case hw => w_witness2
  case hc =>
    refine LamX.walk_ofTsE (l := PySem.Challenge.rw_pocketpile_k53_whole_rows_of_formulas) (n := 63) (k := 30) (x := "script") (CX := fun w => L2.CX (PySem.Challenge.rw_pocketpile_k53_whole_rows_of_formulas).prog w) rfl (by decide) (by kernel_rfl) ⟨rfl, by decide, by decide⟩ ?F (fun _ _ _ _ _ z => DN.cx_false z)
    intro w mg fa h Y G hmg0
    obtain ⟨K, KX, c⟩ := Y
    have hmg : mg ("law" : PySem.Str) = some (.ref fa) := by
      have e : (HandSHeadRun.topDef (OpenLaw.row PySem.Challenge.rw_pocketpile_k53_whole_rows_of_formulas).prog 25).name = ("law" : PySem.Str) := by kernel_rfl
      rw [← e]
      exact hmg0
    exact ⟨K, KX, LW.law_end (l := PySem.Challenge.rw_pocketpile_k53_whole_rows_of_formulas) KX G hmg c⟩
