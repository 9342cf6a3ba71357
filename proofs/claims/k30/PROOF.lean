import PyProof.Rows.All
import Wide.All
import OpenK.AllK
import Wide.FinOn
import PyProof.EqAt
import PyProof.EqKinds
import PyProof.TupleCall
import HandS.Base
import HandS.Call
import HandS.List
import HandS.Comp
import HandS.Ends
import HandS.Dict
import HandS.Iter
import HandS.Text
import HandS.Words
import HandS.WordsList
import HandS.WordsExc
import HandS.Exc
import HandS.ExcOwn
import HandS.Wide
import HandS.IsInst
import HandS.TupAny
import HandS.TupMul
import HandS.Lambda
import HandS.EndTab
import HandS.HeadWalk
import HandS.HeadHook1
import HandS.HeadHook2
import HandS.Defaults
import HandS.NoneIn
import HandS.Style
import KE.KDictDisplayH
import HandS.HeadEnd
import HandS.Head0
import HandS.Head1
import HandS.Head2
import HandS.HeadHook3
import HandS.HeadHook4
import HandS.Replace
import HandS.ExcIs
import HandS.Flt
import HandS.More
import HandS.TryMany
import HandS.CallLocal
import HandS.Strs
import HandS.ReplaceLit
import HandS.ReplaceList
import HandS.Zip
import PyProof.ReprRoads
import HandS.Deep
import KE.IntTextLaws
import PySem.Challenge.RW_pocketpile_k30_programs
set_option Elab.async false
set_option linter.all false
set_option maxRecDepth 100000
set_option maxHeartbeats 4000000
/-! DN: a program's defs as plain functions of data. The heap is dealt with here, once. -/
namespace DN
open PySem PySem.Spec PyProof.Rows L2
open LamX (Tabs ExtN)

/-- data -/
inductive D where
  | non | bl (b : Bool) | int (i : Int) | str (x : Str) | lst (xs : List D) | tup (xs : List D) | fn (x : Str) | ty (n : String)
  | dK (kvs : List (Key × V)) | dT (kvs : List (List Key × V)) | arr (ns : List Int)
  /-- a tuple of texts that has no dict of its own -/
  | pro (xs : List Str)
  /-- a dict whose keys are nested tuples (an object of the frame's own) -/
  | dic (P : Program) (w : World) (ks vs : List D)
  /-- a thing known by its address alone -/
  | adr (a : Addr)
  /-- an instance of the class c, its attributes (an object of the frame's own) -/
  | ins (c : Str) (ns : List Str) (vs : List D)

/-- what comes: a value, an own error by its class's name, or nothing is promised -/
inductive Res (α : Type) where
  | ok (a : α) | ex (n : Str) | bad
def Res.bind {α β : Type} : Res α → (α → Res β) → Res β
  | .ok a, f => f a
  | .ex n, _ => .ex n
  | .bad, _ => .bad
def Res.map {α β : Type} (r : Res α) (f : α → β) : Res β := r.bind fun a => .ok (f a)
def ofO {α : Type} : Option α → Res α
  | some a => .ok a
  | none => .bad

mutual
inductive Rp (K : PySem.W.Frag) (H : Hp) : V → D → Prop
  | non : Rp K H .non .non
  | bl (b : Bool) : Rp K H (.bl b) (.bl b)
  | int (i : Int) : Rp K H (.int i) (.int i)
  | str (x : Str) : Rp K H (.str x) (.str x)
  | fn (x : Str) : Rp K H (.ref (He.ga K x)) (.fn x)
  | ty (n : String) : Rp K H (.ty n) (.ty n)
  | lst {a : Addr} {xs : List V} {ds : List D} : H a = some (.lst xs) → RpAll K H xs ds → Rp K H (.ref a) (.lst ds)
  | tup {a : Addr} {xs : List V} {ds : List D} : SqT K H a xs → RpAll K H xs ds → Rp K H (.ref a) (.tup ds)
  | dK {a : Addr} {kvs : List (Key × V)} : H a = some (.dK kvs) → Rp K H (.ref a) (.dK kvs)
  | dT {a : Addr} {kvs : List (List Key × V)} : H a = some (.dT kvs) → Rp K H (.ref a) (.dT kvs)
  | arr {a : Addr} {ns : List Int} : SqL K H a (ns.map V.int) → Rp K H (.ref a) (.arr ns)
  | pro {a : Addr} {xs : List Str} : (∃ o : Obj, o.cls = .type "tuple" ∧ o.dict = none ∧ H a = some (.frz o (.tup (xs.map V.str)))) → Rp K H (.ref a) (.pro xs)
  | adr (a : Addr) : Rp K H (.ref a) (.adr a)
inductive RpAll (K : PySem.W.Frag) (H : Hp) : List V → List D → Prop
  | nil : RpAll K H [] []
  | cons {v : V} {vs : List V} {d : D} {ds : List D} : Rp K H v d → RpAll K H vs ds → RpAll K H (v :: vs) (d :: ds)
end

def Sub (F H : Hp) : Prop := ∀ a o, F a = some o → H a = some o
theorem Sub.refl (F : Hp) : Sub F F := fun _ _ h => h
theorem Sub.trans {F G H : Hp} (a : Sub F G) (b : Sub G H) : Sub F H := fun x o h => b x o (a x o h)
theorem Sub.rd {F H : Hp} {a : Addr} {u : HO} (e : Sub F H) (h : Rd F a u) : Rd H a u := by
  rcases h with h | ⟨o, h⟩
  · exact .inl (e _ _ h)
  · exact .inr ⟨o, e _ _ h⟩
theorem Sub.sl {K : PySem.W.Frag} {F H : Hp} {a : Addr} {xs : List V} (e : Sub F H) (h : SqL K F a xs) : SqL K H a xs := h.elim (fun h => .inl (e.rd h)) .inr
theorem Sub.st {K : PySem.W.Frag} {F H : Hp} {a : Addr} {xs : List V} (e : Sub F H) (h : SqT K F a xs) : SqT K H a xs := h.elim (fun h => .inl (e.rd h)) .inr
mutual
theorem Rp.mono {K : PySem.W.Frag} {F H : Hp} (e : Sub F H) : ∀ {v : V} {d : D}, Rp K F v d → Rp K H v d
  | _, _, .non => .non
  | _, _, .bl b => .bl b
  | _, _, .int i => .int i
  | _, _, .str x => .str x
  | _, _, .fn x => .fn x
  | _, _, .ty n => .ty n
  | _, _, .lst h t => .lst (e _ _ h) (RpAll.mono e t)
  | _, _, .tup h t => .tup (e.st h) (RpAll.mono e t)
  | _, _, .dK h => .dK (e _ _ h)
  | _, _, .dT h => .dT (e _ _ h)
  | _, _, .arr h => .arr (e.sl h)
  | _, _, .pro ⟨o, h1, h2, h3⟩ => .pro ⟨o, h1, h2, e _ _ h3⟩
  | _, _, .adr a => .adr a
theorem RpAll.mono {K : PySem.W.Frag} {F H : Hp} (e : Sub F H) : ∀ {vs : List V} {ds : List D}, RpAll K F vs ds → RpAll K H vs ds
  | _, _, .nil => .nil
  | _, _, .cons h t => .cons (Rp.mono e h) (RpAll.mono e t)
end
section
variable {K : PySem.W.Frag} {F H : Hp}
theorem RpAll.length : ∀ {vs : List V} {ds : List D}, RpAll K F vs ds → vs.length = ds.length
  | _, _, .nil => rfl
  | _, _, .cons _ t => by rw [List.length_cons, List.length_cons, RpAll.length t]
theorem RpAll.get : ∀ {vs : List V} {ds : List D} {i : Nat} {d : D}, RpAll K F vs ds → ds[i]? = some d → ∃ v, vs[i]? = some v ∧ Rp K F v d
  | _, _, _, _, .nil, e => by simp at e
  | _, _, 0, _, .cons h _, e => by
    simp at e; subst e; exact ⟨_, rfl, h⟩
  | _, _, i + 1, d, .cons _ t, e => by
    obtain ⟨v, h1, h2⟩ := RpAll.get (i := i) (d := d) t (by simpa using e)
    exact ⟨v, by simpa using h1, h2⟩
theorem RpAll.append : ∀ {vs ws : List V} {ds es : List D}, RpAll K F vs ds → RpAll K F ws es → RpAll K F (vs ++ ws) (ds ++ es)
  | _, _, _, _, .nil, s => s
  | _, _, _, _, .cons h t, s => .cons h (RpAll.append t s)
theorem RpAll.take : ∀ {vs : List V} {ds : List D} (n : Nat), RpAll K F vs ds → RpAll K F (vs.take n) (ds.take n)
  | _, _, 0, _ => by simp; exact .nil
  | _, _, _ + 1, .nil => .nil
  | _, _, n + 1, .cons h t => .cons h (RpAll.take n t)
theorem RpAll.drop : ∀ {vs : List V} {ds : List D} (n : Nat), RpAll K F vs ds → RpAll K F (vs.drop n) (ds.drop n)
  | _, _, 0, r => r
  | _, _, _ + 1, .nil => .nil
  | _, _, n + 1, .cons _ t => RpAll.drop n t
theorem RpAll.ints : ∀ (ns : List Int), RpAll K F (ns.map V.int) (ns.map D.int)
  | [] => .nil
  | n :: ns => .cons (.int n) (RpAll.ints ns)
end

/-- the frozen part F of H -/
structure Fz (F H : Hp) : Prop where
  sub : Sub F H
  nt : ∀ a ps, F a ≠ some (.tbl ps)
/-- from (F, H) to (F', H') -/
structure Nx (T : List (Addr × Str)) (F H F' H' : Hp) : Prop where
  f : Sub F F'
  z : Fz F' H'
  h : ExtN H H'
  new : ∀ a o, F' a = some o → F a = some o ∨ ∀ o', H a = some o' → ∃ ps, o' = .tbl ps
  tab : Tabs T H → Tabs T H'
section
variable {T : List (Addr × Str)} {F H F1 H1 F2 H2 : Hp}
theorem Nx.refl (z : Fz F H) : Nx T F H F H := ⟨Sub.refl F, z, ExtN.refl H, fun _ _ h => .inl h, fun h => h⟩
theorem Nx.trans (a : Nx T F H F1 H1) (b : Nx T F1 H1 F2 H2) : Nx T F H F2 H2 where
  f := a.f.trans b.f
  z := b.z
  h := a.h.trans b.h
  new := fun x o e => by
    rcases b.new x o e with h | h
    · exact a.new x o h
    · refine .inr fun o' e' => ?_
      by_cases q : ∃ ps, o' = .tbl ps
      · exact q
      · exact h o' (a.h x o' e' fun ps z => q ⟨ps, z⟩)
  tab := fun h => b.tab (a.tab h)
/-- a new object that is frozen from its begin -/
theorem Nx.push {p : Addr} {o : HO} (z : Fz F H) (hp : H p = none) (ho : ∀ ps, o ≠ .tbl ps) : Nx T F H (upd F p o) (upd H p o) := by
  have fp : F p = none := by
    cases q : F p with
    | none => rfl
    | some u =>
      have := z.sub _ _ q
      rw [hp] at this; cases this
  refine ⟨fun a u e => ?_, ⟨fun a u e => ?_, fun a ps e => ?_⟩, fun b u e _ => ?_, fun a u e => ?_, fun t => t.ext fun b u e => ?_⟩
  · rw [upd_ne (ne_of_none e fp)]; exact e
  · by_cases h : a = p
    · subst h; rw [upd_same] at e ⊢; exact e
    · rw [upd_ne h] at e ⊢; exact z.sub _ _ e
  · by_cases h : a = p
    · subst h; rw [upd_same] at e; exact ho ps (Option.some.inj e)
    · rw [upd_ne h] at e; exact z.nt _ _ e
  · rw [upd_ne (ne_of_none e hp)]; exact e
  · by_cases h : a = p
    · subst h; exact .inr fun o' e' => by rw [hp] at e'; cases e'
    · rw [upd_ne h] at e; exact .inl e
  · rw [upd_ne (ne_of_none e hp)]; exact e
/-- a new object that is not frozen -/
theorem Nx.lay {p : Addr} {o : HO} (z : Fz F H) (hp : H p = none) : Nx T F H F (upd H p o) := by
  refine ⟨Sub.refl F, ⟨fun a u e => ?_, z.nt⟩, fun b u e _ => ?_, fun a u e => .inl e, fun t => t.ext fun b u e => ?_⟩
  · rw [upd_ne (ne_of_none (z.sub _ _ e) hp)]; exact z.sub _ _ e
  · rw [upd_ne (ne_of_none e hp)]; exact e
  · rw [upd_ne (ne_of_none e hp)]; exact e
theorem Nx.keep (n : Nx T F H F1 H1) {a : Addr} {o : HO} (e : H a = some o) (ho : ∀ ps, o ≠ .tbl ps) : H1 a = some o := n.h a o e ho
theorem Nx.out (n : Nx T F H F1 H1) {a : Addr} {o : HO} (e : H a = some o) (ho : ∀ ps, o ≠ .tbl ps) (hf : F a = none) : F1 a = none := by
  cases q : F1 a with
  | none => rfl
  | some u =>
    rcases n.new a u q with h | h
    · rw [hf] at h; cases h
    · obtain ⟨ps, z⟩ := h o e
      exact absurd z (ho ps)
end

/-- a slot: nothing is known; frozen data; an object of the frame's own -/
inductive En where
  | u | z (d : D) | o (d : D)
abbrev Rho := List En
/-! dicts of nested keys -/
mutual
def D.key : D → Option NestedKey
  | .non => some .none
  | .bl b => some (.num (if b = true then 1 else 0))
  | .int i => some (.num i)
  | .str x => some (.text x)
  | .tup ds => (D.keys ds).map .tup
  | _ => none
def D.keys : List D → Option (List NestedKey)
  | [] => some []
  | d :: ds => (D.key d).bind fun k => (D.keys ds).map fun ks => k :: ks
end
def EntR (p : NestedKey × Addr × V) (q : NestedKey × Addr × Value) : Prop := p.1 = q.1 ∧ p.2.1 = q.2.1 ∧ RelV p.2.2 q.2.2
/-- the dict at a: its keys (the tuples' addresses) and values -/
def DicO (P : Program) (w : World) (a : Addr) (es : List (NestedKey × Addr × V)) : HO := .ext fun h => (a == sysModules) = false ∧ es.length ≤ sizeLine ∧ ∃ xs : List (NestedKey × Addr × Value), Paired EntR es xs ∧
  ∃ o ents ep, h.get? a = some o ∧ o.ExactDict ∧ o.data = .dict ents ep ∧ ents.toList = xs.map (entryOfKey (nestedKind P w)) ∧ (xs.map (·.1)).Nodup
inductive DicR (K : PySem.W.Frag) (F : Hp) : List (NestedKey × Addr × V) → List D → List D → Prop
  | nil : DicR K F [] [] []
  | cons {n : NestedKey} {a : Addr} {v : V} {es : List (NestedKey × Addr × V)} {k d : D} {ks vs : List D} : k.key = some n → n.depth ≤ 8 → Rp K F (.ref a) k → Rp K F v d → DicR K F es ks vs → DicR K F ((n, a, v) :: es) (k :: ks) (d :: vs)
theorem DicR.mono {K : PySem.W.Frag} {F F' : Hp} (e : Sub F F') {es : List (NestedKey × Addr × V)} {ks vs : List D} (h : DicR K F es ks vs) : DicR K F' es ks vs := by
  induction h with
  | nil => exact .nil
  | cons h1 h2 h3 h4 _ ih => exact .cons h1 h2 (h3.mono e) (h4.mono e) ih
/-- the object at p, not frozen, is d -/
def OwnAt (K : PySem.W.Frag) (F H : Hp) (p : Addr) : D → Prop
  | .lst ds => ∃ xs, H p = some (.lst xs) ∧ RpAll K F xs ds
  | .dK kvs => H p = some (.dK kvs)
  | .dT kvs => H p = some (.dT kvs)
  | .dic P w ks vs => ∃ es, H p = some (DicO P w p es) ∧ DicR K F es ks vs
  | .ins c ns vs => ∃ dx ws, H p = some (.ins (He.ga K c) dx (ns.zip ws)) ∧ RpAll K F ws vs
  | _ => False
theorem OwnAt.solid {K : PySem.W.Frag} {F H : Hp} {p : Addr} : ∀ {d : D}, OwnAt K F H p d → ∃ o, H p = some o ∧ ∀ ps, o ≠ .tbl ps
  | .lst ds, ⟨xs, h, _⟩ => ⟨_, h, fun ps z => by cases z⟩
  | .dK kvs, h => ⟨_, h, fun ps z => by cases z⟩
  | .dT kvs, h => ⟨_, h, fun ps z => by cases z⟩
  | .dic P w ks vs, ⟨es, h, _⟩ => ⟨_, h, fun ps z => by unfold DicO at z; cases z⟩
  | .ins c ns vs, ⟨dx, ws, h, _⟩ => ⟨_, h, fun ps z => by cases z⟩
  | .non, h => h.elim
  | .bl _, h => h.elim
  | .int _, h => h.elim
  | .str _, h => h.elim
  | .tup _, h => h.elim
  | .fn _, h => h.elim
  | .ty _, h => h.elim
  | .arr _, h => h.elim
  | .pro _, h => h.elim
  | .adr _, h => h.elim
theorem OwnAt.mono {K : PySem.W.Frag} {T : List (Addr × Str)} {F H F' H' : Hp} {p : Addr} (n : Nx T F H F' H') : ∀ {d : D}, OwnAt K F H p d → OwnAt K F' H' p d
  | .lst ds, ⟨xs, h, r⟩ => ⟨xs, n.keep h fun ps z => (by cases z), RpAll.mono n.f r⟩
  | .dK kvs, h => n.keep h fun ps z => (by cases z)
  | .dT kvs, h => n.keep h fun ps z => (by cases z)
  | .dic P w ks vs, ⟨es, h, r⟩ => ⟨es, n.keep h fun ps z => (by unfold DicO at z; cases z), r.mono n.f⟩
  | .ins c ns vs, ⟨dx, ws, h, r⟩ => ⟨dx, ws, n.keep h fun ps z => (by cases z), r.mono n.f⟩
  | .non, h => h.elim
  | .bl _, h => h.elim
  | .int _, h => h.elim
  | .str _, h => h.elim
  | .tup _, h => h.elim
  | .fn _, h => h.elim
  | .ty _, h => h.elim
  | .arr _, h => h.elim
  | .pro _, h => h.elim
  | .adr _, h => h.elim
structure Rl (K : PySem.W.Frag) (F H : Hp) (σ : L2.St) (ρ : Rho) : Prop where
  len : σ.length = ρ.length
  z : ∀ (i : Nat) (d : D), ρ[i]? = some (En.z d) → ∃ v, σ[i]? = some (some v) ∧ Rp K F v d
  o : ∀ (i : Nat) (d : D), ρ[i]? = some (En.o d) → ∃ p, σ[i]? = some (some (V.ref p)) ∧ F p = none ∧ OwnAt K F H p d
  ne : ∀ (i j : Nat) (d e : D) (p q : Addr), i ≠ j → ρ[i]? = some (En.o d) → ρ[j]? = some (En.o e) → σ[i]? = some (some (V.ref p)) → σ[j]? = some (some (V.ref q)) → p ≠ q
section
variable {K : PySem.W.Frag} {T : List (Addr × Str)} {F H F' H' : Hp} {σ : L2.St} {ρ : Rho}
theorem Rl.mono (n : Nx T F H F' H') (r : Rl K F H σ ρ) : Rl K F' H' σ ρ where
  len := r.len
  z := fun i d e => let ⟨v, h1, h2⟩ := r.z i d e; ⟨v, h1, h2.mono n.f⟩
  o := fun i d e => by
    obtain ⟨p, h1, h2, h3⟩ := r.o i d e
    obtain ⟨o, h4, h5⟩ := h3.solid
    exact ⟨p, h1, n.out h4 h5 h2, h3.mono n⟩
  ne := r.ne
theorem Rl.set {i : Nat} {v : V} {d : D} (r : Rl K F H σ ρ) (h : Rp K F v d) : Rl K F H (σ.set i (some v)) (ρ.set i (.z d)) where
  len := by rw [List.length_set, List.length_set]; exact r.len
  z := fun j e hj => by
    rw [List.getElem?_set] at hj ⊢
    by_cases hij : i = j
    · subst hij
      rw [if_pos rfl] at hj ⊢
      by_cases hl : i < ρ.length
      · rw [if_pos hl] at hj
        rw [if_pos (by rw [r.len]; exact hl)]
        cases hj
        exact ⟨v, rfl, h⟩
      · rw [if_neg hl] at hj; cases hj
    · rw [if_neg hij] at hj ⊢
      exact r.z j e hj
  o := fun j e hj => by
    rw [List.getElem?_set] at hj ⊢
    by_cases hij : i = j
    · subst hij
      rw [if_pos rfl] at hj
      by_cases hl : i < ρ.length
      · rw [if_pos hl] at hj; cases hj
      · rw [if_neg hl] at hj; cases hj
    · rw [if_neg hij] at hj ⊢
      exact r.o j e hj
  ne := fun j k a b p q hn h1 h2 h3 h4 => by
    rw [List.getElem?_set] at h1 h2 h3 h4
    have fj : i ≠ j := fun z => by
      rw [if_pos z] at h1; split at h1 <;> cases h1
    have fk : i ≠ k := fun z => by
      rw [if_pos z] at h2; split at h2 <;> cases h2
    rw [if_neg fj] at h1 h3
    rw [if_neg fk] at h2 h4
    exact r.ne j k a b p q hn h1 h2 h3 h4
theorem Rl.wipe1 {i : Nat} (r : Rl K F H σ ρ) : Rl K F H (σ.set i none) (ρ.set i .u) where
  len := by rw [List.length_set, List.length_set]; exact r.len
  z := fun j e hj => by
    rw [List.getElem?_set] at hj ⊢
    by_cases hij : i = j
    · subst hij
      rw [if_pos rfl] at hj
      split at hj <;> cases hj
    · rw [if_neg hij] at hj ⊢
      exact r.z j e hj
  o := fun j e hj => by
    rw [List.getElem?_set] at hj ⊢
    by_cases hij : i = j
    · subst hij
      rw [if_pos rfl] at hj
      split at hj <;> cases hj
    · rw [if_neg hij] at hj ⊢
      exact r.o j e hj
  ne := fun j k a b p q hn h1 h2 h3 h4 => by
    rw [List.getElem?_set] at h1 h2 h3 h4
    have fj : i ≠ j := fun z => by
      rw [if_pos z] at h1; split at h1 <;> cases h1
    have fk : i ≠ k := fun z => by
      rw [if_pos z] at h2; split at h2 <;> cases h2
    rw [if_neg fj] at h1 h3
    rw [if_neg fk] at h2 h4
    exact r.ne j k a b p q hn h1 h2 h3 h4
end

/-! ### readings by functions of data -/
/-- what is wanted behind: of an α that stands for the β -/
def aft {α β : Type} (R : Hp → α → β → Prop) (K : PySem.W.Frag) (T : List (Addr × Str)) (W : WX) (σ : L2.St) (F H : Hp) (Q : α → Hp → Prop) : Res β → Prop
  | .ok b => ∀ a F' H', Nx T F H F' H' → R F' a b → Q a H'
  | .ex n => ∀ F' H', Nx T F H F' H' → W (.ref (He.ga K n)) none σ H'
  | .bad => False
abbrev RBool : Hp → Bool → Bool → Prop := fun _ a b => a = b
/-- where one stands -/
structure At (K : PySem.W.Frag) (T : List (Addr × Str)) (F H : Hp) (σ : L2.St) (ρ : Rho) : Prop where
  z : Fz F H
  t : Tabs T H
  r : Rl K F H σ ρ
theorem At.nx {K : PySem.W.Frag} {T : List (Addr × Str)} {F H F' H' : Hp} {σ : L2.St} {ρ : Rho} (a : At K T F H σ ρ) (n : Nx T F H F' H') : At K T F' H' σ ρ := ⟨n.z, n.tab a.t, a.r.mono n⟩
def tG {α β : Type} (R : PySem.W.Frag → Hp → α → β → Prop) (K : PySem.W.Frag) (T : List (Addr × Str)) (W : WX) (f : Rho → Res β) : L2.St → Hp → (α → Hp → Prop) → Prop :=
  fun σ H Q => ∃ ρ F, At K T F H σ ρ ∧ aft (R K) K T W σ F H Q (f ρ)
def tE (K : PySem.W.Frag) (T : List (Addr × Str)) (W : WX) (f : Rho → Res D) : TE := tG Rp K T W f
def tA (K : PySem.W.Frag) (T : List (Addr × Str)) (W : WX) (f : Rho → Res (List D)) : TA := tG RpAll K T W f
def tT (K : PySem.W.Frag) (T : List (Addr × Str)) (W : WX) (f : Rho → Res Bool) : TT := tG (fun _ => RBool) K T W f
section
variable {K : PySem.W.Frag} {T : List (Addr × Str)} {W : WX} {σ : L2.St} {F H F' H' : Hp}
theorem aft.mono {α β : Type} {R : Hp → α → β → Prop} {Q : α → Hp → Prop} {r : Res β} (n : Nx T F H F' H') (h : aft R K T W σ F H Q r) : aft R K T W σ F' H' Q r := by
  cases r with
  | ok b => exact fun a F2 H2 n2 ra => h a F2 H2 (n.trans n2) ra
  | ex m => exact fun F2 H2 n2 => h F2 H2 (n.trans n2)
  | bad => exact h
theorem aft.imp {α β : Type} {R : Hp → α → β → Prop} {Q Q' : α → Hp → Prop} {r : Res β} (h : aft R K T W σ F H Q r) (hq : ∀ b, r = .ok b → ∀ a F' H', Nx T F H F' H' → R F' a b → Q a H' → Q' a H') : aft R K T W σ F H Q' r := by
  cases r with
  | ok b => exact fun a F2 H2 n ra => hq b rfl a F2 H2 n ra (h a F2 H2 n ra)
  | ex m => exact h
  | bad => exact h
/-- one thing behind another -/
theorem aft.bind {α β γ δ : Type} {R : Hp → α → β → Prop} {S : Hp → γ → δ → Prop} {Q : γ → Hp → Prop} {r : Res β} {k : β → Res δ} (h : aft S K T W σ F H Q (r.bind k)) :
    aft R K T W σ F H (fun a H1 => ∃ b F1, r = .ok b ∧ Nx T F H F1 H1 ∧ R F1 a b ∧ aft S K T W σ F1 H1 Q (k b)) r := by
  cases r with
  | ok b => exact fun a F2 H2 n ra => ⟨b, F2, rfl, n, ra, aft.mono n h⟩
  | ex m => exact h
  | bad => exact h
theorem aft.ok {α β : Type} {R : Hp → α → β → Prop} {Q : α → Hp → Prop} {b : β} {a : α} {F1 H1 : Hp} (h : aft R K T W σ F H Q (.ok b)) (n : Nx T F H F1 H1) (ra : R F1 a b) : Q a H1 := h a F1 H1 n ra
end
/-- a judgement is weakened -/
theorem _root_.L2.PE.to {X : Cx} {e : Expr} {t u : TE} (h : PE X e t) (k : ∀ σ H Q, u σ H Q → t σ H Q) : PE X e u := ⟨fun pins s σ H Q I q => h.run pins s σ H Q I (k σ H Q q)⟩
theorem _root_.L2.PT.to {X : Cx} {e : Expr} {t u : TT} (h : PT X e t) (k : ∀ σ H Q, u σ H Q → t σ H Q) : PT X e u := ⟨fun pins s σ H Q I q => h.run pins s σ H Q I (k σ H Q q)⟩
theorem _root_.L2.PW.to {X : Cx} {e : Expr} {t u : TT} (h : PW X e t) (k : ∀ σ H Q, u σ H Q → t σ H Q) : PW X e u := ⟨fun whole pins s σ H Q I q => h.run whole pins s σ H Q I (k σ H Q q)⟩
theorem _root_.L2.PA.to {X : Cx} {es : List Expr} {t u : TA} (h : PA X es t) (k : ∀ σ H Q, u σ H Q → t σ H Q) : PA X es u := ⟨fun pos pins s σ H Q I q => h.run pos pins s σ H Q I (k σ H Q q)⟩
theorem _root_.L2.PS.to {X : Cx} {st : Stmt} {t u : TS} (h : PS X st t) (k : ∀ D σ H, u D σ H → t D σ H) : PS X st u := ⟨fun pins s σ H D I q => h.run pins s σ H D I (k D σ H q)⟩
theorem _root_.L2.PSs.to {X : Cx} {st : List Stmt} {t u : TS} (h : PSs X st t) (k : ∀ D σ H, u D σ H → t D σ H) : PSs X st u := ⟨fun pins s σ H D I q => h.run pins s σ H D I (k D σ H q)⟩

/-! ### names, constants, arguments -/
section
variable {X : Cx} {T : List (Addr × Str)} {W : WX}
abbrev DE (X : Cx) (T : List (Addr × Str)) (W : WX) (e : Expr) (f : Rho → Res D) : Prop := PE X e (tE X.K T W f)
abbrev DQ (X : Cx) (T : List (Addr × Str)) (W : WX) (e : Expr) (f : Rho → Res Bool) : Prop := PT X e (tT X.K T W f)
abbrev DW (X : Cx) (T : List (Addr × Str)) (W : WX) (e : Expr) (f : Rho → Res Bool) : Prop := PW X e (tT X.K T W f)
abbrev DA (X : Cx) (T : List (Addr × Str)) (W : WX) (es : List Expr) (f : Rho → Res (List D)) : Prop := PA X es (tA X.K T W f)

def var (i : Nat) : Rho → Res D := fun ρ => match ρ[i]? with
  | some (.z d) => .ok d
  | _ => .bad
theorem e_var {i : Nat} {x : Str} {pos : Pos} (h : PE X (.Name x pos) (tVar i)) : DE X T W (.Name x pos) (var i) := h.to fun σ H Q hq => by
  obtain ⟨ρ, F, a, h⟩ := hq
  unfold var at h
  cases e : ρ[i]? with
  | none => rw [e] at h; exact h.elim
  | some en =>
    rw [e] at h
    cases en with
    | u => exact h.elim
    | o d => exact h.elim
    | z d =>
      obtain ⟨v, h1, h2⟩ := a.r.z i d e
      exact ⟨v, h1, h v F H (Nx.refl a.z) h2⟩
def con (d : D) : Rho → Res D := fun _ => .ok d
theorem e_c {e : Expr} {v : V} {d : D} (h : PE X e (tC v)) (r : ∀ F, Rp X.K F v d) : DE X T W e (con d) := h.to fun σ H Q ⟨ρ, F, a, h⟩ => h v F H (Nx.refl a.z) (r F)
theorem e_int {i j pos} : DE X T W (.Constant (.int i) j pos) (con (.int i)) := e_c pe_int fun _ => .int i
theorem e_bl {b j pos} : DE X T W (.Constant (.bool b) j pos) (con (.bl b)) := e_c pe_bl fun _ => .bl b
theorem e_non {j pos} : DE X T W (.Constant .none j pos) (con .non) := e_c pe_non fun _ => .non
theorem e_str {x j pos} : DE X T W (.Constant (.str x) j pos) (con (.str x)) := e_c pe_str fun _ => .str x

def anil : Rho → Res (List D) := fun _ => .ok []
def acons (f : Rho → Res D) (g : Rho → Res (List D)) : Rho → Res (List D) := fun ρ => (f ρ).bind fun d => (g ρ).bind fun ds => .ok (d :: ds)
theorem a_nil : DA X T W [] anil := pa_nil.to fun σ H Q ⟨ρ, F, a, h⟩ => h [] F H (Nx.refl a.z) .nil
theorem a_cons {e : Expr} {es : List Expr} {f : Rho → Res D} {g : Rho → Res (List D)} (he : DE X T W e f) (hs : DA X T W es g) (hstar : starEach (e :: es) X.env = (false, eval e X.env) :: starEach es X.env := by rfl) : DA X T W (e :: es) (acons f g) :=
  (pa_cons he hs hstar).to fun σ H Q ⟨ρ, F, a, h⟩ => by
    refine ⟨ρ, F, a, (aft.bind (R := Rp X.K) h).imp fun d _ v F1 H1 _ _ q => ?_⟩
    obtain ⟨b, F2, _, n, rv, q⟩ := q
    refine ⟨ρ, F2, a.nx n, (aft.bind (R := RpAll X.K) q).imp fun ds _ vs F3 H3 _ _ q => ?_⟩
    obtain ⟨ds', F4, _, n2, rs, q⟩ := q
    exact q.ok (Nx.refl n2.z) (.cons (rv.mono n2.f) rs)
end
end DN
namespace DN
open PySem PySem.Spec PyProof.Rows L2
open LamX (Tabs ExtN)
open PySem.Builtin.Str (tooLong)

/-! ### operators -/
/-- an operation on values, by a function of data -/
def rD2 (K : PySem.W.Frag) (T : List (Addr × Str)) (G : D → D → Option D) : R2 := fun x y H Q =>
  ∃ F d e z, Fz F H ∧ Rp K F x d ∧ Rp K F y e ∧ G d e = some z ∧ ∀ v F' H', Nx T F H F' H' → Rp K F' v z → Q v H'
def rD1 (K : PySem.W.Frag) (T : List (Addr × Str)) (G : D → Option D) : V → Hp → VK → Prop := fun x H Q =>
  ∃ F d z, Fz F H ∧ Rp K F x d ∧ G d = some z ∧ ∀ v F' H', Nx T F H F' H' → Rp K F' v z → Q v H'
def rDn (K : PySem.W.Frag) (T : List (Addr × Str)) (G : List D → Option D) : List V → Hp → VK → Prop := fun xs H Q =>
  ∃ F ds z, Fz F H ∧ RpAll K F xs ds ∧ G ds = some z ∧ ∀ v F' H', Nx T F H F' H' → Rp K F' v z → Q v H'
def bop (G : D → D → Option D) (f g : Rho → Res D) : Rho → Res D := fun ρ => (f ρ).bind fun d => (g ρ).bind fun e => ofO (G d e)
def una (G : D → Option D) (f : Rho → Res D) : Rho → Res D := fun ρ => (f ρ).bind fun d => ofO (G d)
def cal (G : List D → Option D) (f : Rho → Res (List D)) : Rho → Res D := fun ρ => (f ρ).bind fun ds => ofO (G ds)
section
variable {X : Cx} {T : List (Addr × Str)} {W : WX}
theorem ofO_ok {α : Type} {o : Option α} {K : PySem.W.Frag} {σ : L2.St} {F H : Hp} {β : Type} {R : Hp → β → α → Prop} {Q : β → Hp → Prop} (h : aft R K T W σ F H Q (ofO o)) : ∃ a, o = some a ∧ ∀ b F' H', Nx T F H F' H' → R F' b a → Q b H' := by
  cases o with
  | none => exact h.elim
  | some a => exact ⟨a, rfl, h⟩
theorem bin_to {K : PySem.W.Frag} {G : D → D → Option D} {f g : Rho → Res D} {σ : L2.St} {H : Hp} {Q : VK} (h : tE K T W (bop G f g) σ H Q) : tOp (rD2 K T G) (tE K T W f) (tE K T W g) σ H Q := by
  obtain ⟨ρ, F, a, h⟩ := h
  refine ⟨ρ, F, a, (aft.bind (R := Rp K) h).imp fun d _ v F1 H1 _ _ q => ?_⟩
  obtain ⟨b, F2, _, n, rv, q⟩ := q
  refine ⟨ρ, F2, a.nx n, (aft.bind (R := Rp K) q).imp fun ds _ vs F3 H3 _ _ q => ?_⟩
  obtain ⟨e, F4, _, n2, rs, q⟩ := q
  obtain ⟨z, hz, q⟩ := ofO_ok q
  exact ⟨F4, b, e, z, n2.z, rv.mono n2.f, rs, hz, q⟩
theorem e_bin {op : Operator} {G : D → D → Option D} {a b : Expr} {f g : Rho → Res D} {pos : Pos} (ho : OpR X (binaryOp op) (rD2 X.K T G)) (ha : DE X T W a f) (hb : DE X T W b g) : DE X T W (.BinOp a op b pos) (bop G f g) :=
  (pe_op ho ha hb).to fun _ _ _ h => bin_to h
theorem e_una {op : UnaryOp} {G : D → Option D} {a : Expr} {f : Rho → Res D} {pos : Pos} (ho : UnR X (unaryOp op) (rD1 X.K T G)) (ha : DE X T W a f) : DE X T W (.UnaryOp op a pos) (una G f) :=
  (pe_un ho ha).to fun σ H Q ⟨ρ, F, a, h⟩ => by
    refine ⟨ρ, F, a, (aft.bind (R := Rp X.K) h).imp fun d _ v F1 H1 _ _ q => ?_⟩
    obtain ⟨b, F2, _, n, rv, q⟩ := q
    obtain ⟨z, hz, q⟩ := ofO_ok q
    exact ⟨F2, b, z, n.z, rv, hz, q⟩
theorem e_cmp {op : CmpOp} {G : D → D → Option D} {a b : Expr} {f g : Rho → Res D} {pos : Pos} (ho : OpR X (compareOp op) (rD2 X.K T G)) (ha : DE X T W a f) (hb : DE X T W b g) (hm : behindInMarks op b = false) : DE X T W (.Compare a [op] [b] pos) (bop G f g) :=
  (pe_cmpR ho ha hb hm).to fun _ _ _ h => bin_to h
/-- a comparison's answer -/
def ans : D → Res Bool
  | .bl b => .ok b
  | _ => .bad
def tst (f : Rho → Res D) : Rho → Res Bool := fun ρ => (f ρ).bind ans
theorem tst_to {K : PySem.W.Frag} {f : Rho → Res D} {σ : L2.St} {H : Hp} {Q : Bool → Hp → Prop} (h : tT K T W (tst f) σ H Q) : tE K T W f σ H fun x H' => ∃ k, x = .bl k ∧ Q k H' := by
  obtain ⟨ρ, F, a, h⟩ := h
  refine ⟨ρ, F, a, (aft.bind (R := Rp K) h).imp fun d _ v F1 H1 _ _ q => ?_⟩
  obtain ⟨b, F2, _, n, rv, q⟩ := q
  cases b with
  | bl k =>
    cases rv
    exact ⟨k, rfl, q k F2 H1 (Nx.refl n.z) rfl⟩
  | _ => exact q.elim
theorem q_cmp {op : CmpOp} {G : D → D → Option D} {a b : Expr} {f g : Rho → Res D} {pos : Pos} (ho : OpR X (compareOp op) (rD2 X.K T G)) (ha : DE X T W a f) (hb : DE X T W b g) (hm : behindInMarks op b = false) : DQ X T W (.Compare a [op] [b] pos) (tst (bop G f g)) :=
  (pt_cmpR ho ha hb hm).to fun σ H Q h => by
    have h2 := tst_to h
    exact bin_to h2
end

/-! the operators' functions -/
def CMulD (i j : Int) : Prop := CMul i j ∨ CMulW i j
instance : Decidable (CMulD i j) := by unfold CMulD CMul CMulW; infer_instance
instance : Decidable (CDivW i j) := by unfold CDivW; infer_instance
def repS (x : Str) (n : Int) : Str := ⟨((List.replicate n.toNat x.cps.toList).flatten).toArray⟩
def addD : D → D → Option D
  | .int i, .int j => some (.int (i + j))
  | .str x, .str y => if x.length + y.length ≤ sizeLine then some (.str (x ++ y)) else none
  | .tup xs, .tup ys => if xs.length + ys.length ≤ sizeLine then some (.tup (xs ++ ys)) else none
  | .lst xs, .lst ys => if xs.length + ys.length ≤ sizeLine then some (.lst (xs ++ ys)) else none
  | _, _ => none
def subD : D → D → Option D
  | .int i, .int j => some (.int (i - j))
  | _, _ => none
def mulD : D → D → Option D
  | .int i, .int j => if CMulD i j then some (.int (i * j)) else none
  | .str x, .int n => if n ≤ 1000000 ∧ -1000000 ≤ n ∧ x.length * n.toNat ≤ 1000000 then some (.str (repS x n)) else none
  | .tup xs, .int k => if 2 ≤ k ∧ k ≤ 1000 ∧ xs.isEmpty = false ∧ xs.length ≤ 1000 then some (.tup (List.replicate k.toNat xs).flatten) else none
  | _, _ => none
def divD : D → D → Option D
  | .int i, .int j => if CDivW i j then some (.int (i / j)) else none
  | _, _ => none
def modD : D → D → Option D
  | .int i, .int j => if 0 < j then some (.int (i % j)) else none
  | _, _ => none
def negD : D → Option D
  | .int i => some (.int (-i))
  | _ => none
def ltD : D → D → Option D
  | .int i, .int j => some (.bl (decide (i < j)))
  | _, _ => none
def leD : D → D → Option D
  | .int i, .int j => some (.bl (decide (i ≤ j)))
  | _, _ => none
def gtD : D → D → Option D
  | .int i, .int j => some (.bl (decide (j < i)))
  | _, _ => none
def geD : D → D → Option D
  | .int i, .int j => some (.bl (decide (j ≤ i)))
  | _, _ => none
def isN : D → D → Option D
  | .non, .non => some (.bl true)
  | _, .non => some (.bl false)
  | _, _ => none
section
variable {X : Cx} {T : List (Addr × Str)} {W : WX}
theorem done0 {K : PySem.W.Frag} {F H : Hp} {z : D} {v : V} {Q : VK} (hz : Fz F H) (q : ∀ v F' H', Nx T F H F' H' → Rp K F' v z → Q v H') (r : Rp K F v z) : Q v H := q v F H (Nx.refl hz) r
theorem donep {K : PySem.W.Frag} {F H : Hp} {z : D} {p : Addr} {o : HO} {Q : VK} (hz : Fz F H) (hp : H p = none) (ho : ∀ ps, o ≠ .tbl ps) (q : ∀ v F' H', Nx T F H F' H' → Rp K F' v z → Q v H') (r : Rp K (upd F p o) (.ref p) z) : Q (.ref p) (upd H p o) :=
  q _ _ _ (Nx.push hz hp ho) r
theorem rp_tup {K : PySem.W.Frag} {F H : Hp} {p : Addr} {xs : List V} {ds : List D} (hz : Fz F H) (hp : H p = none) (r : RpAll K F xs ds) : Rp K (upd F p (.tup xs)) (.ref p) (.tup ds) :=
  .tup (.inl (.inl upd_same)) (r.mono (Nx.push (T := []) (o := .tup xs) hz hp (fun ps z => by cases z)).f)
theorem rp_lst {K : PySem.W.Frag} {F H : Hp} {p : Addr} {xs : List V} {ds : List D} (hz : Fz F H) (hp : H p = none) (r : RpAll K F xs ds) : Rp K (upd F p (.lst xs)) (.ref p) (.lst ds) :=
  .lst upd_same (r.mono (Nx.push (T := []) (o := .lst xs) hz hp (fun ps z => by cases z)).f)
theorem ntT {xs : List V} : ∀ ps, HO.tup xs ≠ .tbl ps := fun _ z => by cases z
theorem ntL {xs : List V} : ∀ ps, HO.lst xs ≠ .tbl ps := fun _ z => by cases z
theorem RpAll.nil_iff {K : PySem.W.Frag} {F : Hp} {xs : List V} {ds : List D} (r : RpAll K F xs ds) : xs = [] ↔ ds = [] := by
  cases r with
  | nil => simp
  | cons _ _ => simp
theorem o_add : OpR X (binaryOp .Add) (rD2 X.K T addD) := by
  intro pins s σ H x y v u Q I rx ry h
  obtain ⟨F, d, e, z, hz, rd, re, hG, q⟩ := h
  cases rd with
  | int i =>
    cases re with
    | int j => cases hG; exact op_add pins s σ H _ _ v u Q I rx ry ⟨i, j, rfl, rfl, done0 hz q (.int _)⟩
    | _ => cases hG
  | str i =>
    cases re with
    | str j =>
      have hG : (if i.length + j.length ≤ sizeLine then some (D.str (i ++ j)) else none) = some z := hG
      split at hG
      · rename_i hl
        cases hG
        exact op_add_str pins s σ H _ _ v u Q I rx ry ⟨i, j, rfl, rfl, hl, done0 hz q (.str _)⟩
      · cases hG
    | _ => cases hG
  | tup h1 r1 =>
    cases re with
    | tup h2 r2 =>
      rename_i a xs ds b ys es
      have hG : (if ds.length + es.length ≤ sizeLine then some (D.tup (ds ++ es)) else none) = some z := hG
      split at hG
      · rename_i hl
        cases hG
        refine op_catA pins s σ H _ _ v u Q I rx ry ⟨a, b, xs, ys, rfl, rfl, hz.sub.st h1, hz.sub.st h2, by rw [r1.length, r2.length]; exact hl, fun e => ?_, fun e1 e2 => ?_, fun e1 e2 p hp => ?_⟩
        · have e' := r1.nil_iff.mp e
          subst e'
          exact done0 hz q (.tup h2 r2)
        · have e' := r2.nil_iff.mp e2
          subst e'
          rw [List.append_nil] at q
          exact done0 hz q (.tup h1 r1)
        · exact donep hz hp ntT q (rp_tup hz hp (r1.append r2))
      · cases hG
    | _ => cases hG
  | lst h1 r1 =>
    cases re with
    | lst h2 r2 =>
      rename_i a xs ds b ys es
      have hG : (if ds.length + es.length ≤ sizeLine then some (D.lst (ds ++ es)) else none) = some z := hG
      split at hG
      · rename_i hl
        cases hG
        exact op_cat pins s σ H _ _ v u Q I rx ry ⟨a, b, xs, ys, rfl, rfl, hz.sub _ _ h1, hz.sub _ _ h2, by rw [r1.length, r2.length]; exact hl, fun p hp => donep hz hp ntL q (rp_lst hz hp (r1.append r2))⟩
      · cases hG
    | _ => cases hG
  | _ => cases hG
theorem foldA (x : Array Nat) : ∀ (n : Nat) (acc : Array Nat), (List.replicate n x).foldl (· ++ ·) acc = (acc.toList ++ (List.replicate n x.toList).flatten).toArray
  | 0, acc => by simp
  | n + 1, acc => by
    rw [List.replicate_succ, List.foldl_cons, foldA x n]
    simp [List.replicate_succ]
theorem fold_rep (x : Array Nat) (n : Nat) : (List.replicate n x).foldl (· ++ ·) #[] = ((List.replicate n x.toList).flatten).toArray := by
  rw [foldA]; simp
theorem sizeLine_val : (sizeLine : Nat) = 16777216 := sizeLine_eq
theorem o_mul_str {pins : List (Addr × Obj)} {s : Shared} {σ : L2.St} {H : Hp} {Q : VK} {x : Str} {n : Int} {t u : Tok} (I : Inv X pins σ H s) (h1 : n ≤ 1000000) (h2 : -1000000 ≤ n) (h3 : x.length * n.toNat ≤ 1000000) (q : Q (.str (repS x n)) H) :
    wpAny (model X.prog X.w) X.A (binaryOp .Mult (.str x t) (.int n u)) (EP X pins σ Q) X.xe s := by
  have tl : tooLong (x.length * n.toNat) = false := by
    unfold tooLong
    refine decide_eq_false ?_
    rw [sizeLine_val]
    omega
  refine PySem.P.mul_str (by rw [decide_eq_false (by omega), decide_eq_false (by omega)]; rfl) (fun g1 g2 => ?_) (fun _ _ => tl) ?_
  · intro hgt
    have hx : x.length ≤ 1000000 := by
      have hn : 1 ≤ n.toNat := by omega
      have := Nat.mul_le_mul_left x.length hn
      omega
    have hd : (2 ^ 63 - 1) / 1000000 ≤ (2 ^ 63 - 1 : Int) / n := by
      apply Int.le_ediv_of_mul_le (by omega)
      have : ((2 ^ 63 - 1 : Int) / 1000000) * n ≤ ((2 ^ 63 - 1 : Int) / 1000000) * 1000000 := Int.mul_le_mul_of_nonneg_left h1 (by decide)
      exact Int.le_trans this (by decide)
    have h0 : (1000000 : Int) ≤ (2 ^ 63 - 1) / 1000000 := by decide
    omega
  · by_cases g1 : n < 1
    · rw [if_pos g1]
      have e : repS x n = Str.empty := by
        unfold repS
        rw [show n.toNat = 0 by omega] <;> rfl
      rw [e] at q
      exact ⟨by decide, ⟨.str Str.empty, H, I.tok _, ⟨_, rfl⟩, q⟩⟩
    · rw [if_neg g1]
      by_cases g2 : (n == 1 || x.length == 0) = true
      · rw [if_pos g2]
        have e : repS x n = x := by
          unfold repS
          rw [Bool.or_eq_true, beq_iff_eq, beq_iff_eq] at g2
          rcases g2 with g | g
          · subst g
            show (⟨(([x.cps.toList] : List (List Nat)).flatten).toArray⟩ : Str) = x
            simp
          · have : x.cps = #[] := Array.eq_empty_of_size_eq_zero g
            cases x
            simp only at this
            subst this
            simp
        rw [e] at q
        exact ⟨.str x, H, I, ⟨_, rfl⟩, q⟩
      · rw [if_neg g2, fold_rep]
        refine ⟨?_, ⟨.str (repS x n), H, I.tok _, ⟨_, rfl⟩, q⟩⟩
        rw [sizeLine_val]
        show ((List.replicate n.toNat x.cps.toList).flatten).toArray.size ≤ _
        rw [List.size_toArray, List.length_flatten]
        simp
        have e : n.toNat * x.cps.size = x.length * n.toNat := Nat.mul_comm _ _
        rw [e]
        omega
theorem o_mul : OpR X (binaryOp .Mult) (rD2 X.K T mulD) := by
  intro pins s σ H x y v u Q I rx ry h
  obtain ⟨F, d, e, z, hz, rd, re, hG, q⟩ := h
  cases rd with
  | int i =>
    cases re with
    | int j =>
      have hG : (if CMulD i j then some (D.int (i * j)) else none) = some z := hG
      split at hG
      · rename_i hc
        cases hG
        rcases hc with hc | hc
        · exact op_mul pins s σ H _ _ v u Q I rx ry ⟨i, j, rfl, rfl, hc, done0 hz q (.int _)⟩
        · exact op_mulW pins s σ H _ _ v u Q I rx ry ⟨i, j, rfl, rfl, hc, done0 hz q (.int _)⟩
      · cases hG
    | _ => cases hG
  | str x =>
    cases re with
    | int n =>
      have hG : (if n ≤ 1000000 ∧ -1000000 ≤ n ∧ x.length * n.toNat ≤ 1000000 then some (D.str (repS x n)) else none) = some z := hG
      split at hG
      · rename_i hc
        cases hG
        obtain ⟨t, rfl⟩ := rx
        obtain ⟨t', rfl⟩ := ry
        exact o_mul_str I hc.1 hc.2.1 hc.2.2 (done0 hz q (.str _))
      · cases hG
    | _ => cases hG
  | tup h1 r1 =>
    cases re with
    | int k =>
      rename_i a xs ds
      have hG : (if 2 ≤ k ∧ k ≤ 1000 ∧ ds.isEmpty = false ∧ ds.length ≤ 1000 then some (D.tup (List.replicate k.toNat ds).flatten) else none) = some z := hG
      split at hG
      · rename_i hc
        cases hG
        obtain ⟨c1, c2, c3, c4⟩ := hc
        have many : ∀ n, RpAll X.K F (List.replicate n xs).flatten (List.replicate n ds).flatten := fun n => by
          induction n with
          | zero => exact .nil
          | succ n ih => simpa [List.replicate_succ] using r1.append ih
        have some_ : xs ≠ [] := fun z => by
          subst z
          cases r1
          cases c3
        exact op_repT pins s σ H _ _ v u Q I rx ry ⟨a, k, xs, rfl, rfl, hz.sub.st h1, some_, c1, c2, by rw [r1.length]; exact c4, fun p hp => donep hz hp ntT q (rp_tup hz hp (many _))⟩
      · cases hG
    | _ => cases hG
  | _ => cases hG
theorem o_div : OpR X (binaryOp .FloorDiv) (rD2 X.K T divD) := by
  intro pins s σ H x y v u Q I rx ry h
  obtain ⟨F, d, e, z, hz, rd, re, hG, q⟩ := h
  cases rd with
  | int i =>
    cases re with
    | int j =>
      have hG : (if CDivW i j then some (D.int (i / j)) else none) = some z := hG
      split at hG
      · rename_i hc
        cases hG
        exact op_fdivW pins s σ H _ _ v u Q I rx ry ⟨i, j, rfl, rfl, hc, done0 hz q (.int _)⟩
      · cases hG
    | _ => cases hG
  | _ => cases hG
theorem o_mod : OpR X (binaryOp .Mod) (rD2 X.K T modD) := by
  intro pins s σ H x y v u Q I rx ry h
  obtain ⟨F, d, e, z, hz, rd, re, hG, q⟩ := h
  cases rd with
  | int i =>
    cases re with
    | int j =>
      have hG : (if 0 < j then some (D.int (i % j)) else none) = some z := hG
      split at hG
      · rename_i hc
        cases hG
        exact op_mod pins s σ H _ _ v u Q I rx ry ⟨i, j, rfl, rfl, hc, done0 hz q (.int _)⟩
      · cases hG
    | _ => cases hG
  | _ => cases hG
theorem u_neg : UnR X (unaryOp .USub) (rD1 X.K T negD) := by
  intro pins s σ H x v Q I rx h
  obtain ⟨F, d, z, hz, rd, hG, q⟩ := h
  cases rd with
  | int i => cases hG; exact un_neg pins s σ H _ v Q I rx ⟨i, rfl, done0 hz q (.int _)⟩
  | _ => cases hG
theorem o_lt : OpR X (compareOp .Lt) (rD2 X.K T ltD) := by
  intro pins s σ H x y v u Q I rx ry h
  obtain ⟨F, d, e, z, hz, rd, re, hG, q⟩ := h
  cases rd with
  | int i =>
    cases re with
    | int j => cases hG; exact op_lt pins s σ H _ _ v u Q I rx ry ⟨i, j, rfl, rfl, done0 hz q (.bl _)⟩
    | _ => cases hG
  | _ => cases hG
theorem o_le : OpR X (compareOp .LtE) (rD2 X.K T leD) := by
  intro pins s σ H x y v u Q I rx ry h
  obtain ⟨F, d, e, z, hz, rd, re, hG, q⟩ := h
  cases rd with
  | int i =>
    cases re with
    | int j => cases hG; exact op_le pins s σ H _ _ v u Q I rx ry ⟨i, j, rfl, rfl, done0 hz q (.bl _)⟩
    | _ => cases hG
  | _ => cases hG
end
end DN
namespace DN
open PySem PySem.Spec PyProof.Rows L2
open LamX (Tabs ExtN)

/-! ### tests, and, or, not, chains -/
def andQ (f g : Rho → Res Bool) : Rho → Res Bool := fun ρ => (f ρ).bind fun b => if b = true then g ρ else .ok false
def orQ (f g : Rho → Res Bool) : Rho → Res Bool := fun ρ => (f ρ).bind fun b => if b = true then .ok true else g ρ
def notQ (f : Rho → Res Bool) : Rho → Res Bool := fun ρ => (f ρ).bind fun b => .ok (!b)
def andE (f g : Rho → Res D) : Rho → Res D := fun ρ => (f ρ).bind fun d => (ans d).bind fun b => if b = true then g ρ else .ok (.bl false)
def orE (f g : Rho → Res D) : Rho → Res D := fun ρ => (f ρ).bind fun d => (ans d).bind fun b => if b = true then .ok (.bl true) else g ρ
def notE (f : Rho → Res D) : Rho → Res D := fun ρ => (f ρ).bind fun d => (ans d).bind fun b => .ok (.bl (!b))
def chn (G G' : D → D → Option D) (f g h : Rho → Res D) : Rho → Res D := fun ρ => (f ρ).bind fun d => (g ρ).bind fun e => (ofO (G d e)).bind fun z => (ans z).bind fun k => if k = true then (h ρ).bind fun c => ofO (G' e c) else .ok (.bl false)
section
variable {X : Cx} {T : List (Addr × Str)} {W : WX}
theorem q_val {e : Expr} {f : Rho → Res D} (h : DE X T W e f) (he : ∀ whole, isTrue e X.env whole = (do let v ← whole; standAt e.pos; holding [v] (truthy v)) := by intro _; rfl) : DQ X T W e (tst f) :=
  (pt_val h he).to fun _ _ _ h => tst_to h
theorem w_or1 {a : Expr} {pos : Pos} {f : Rho → Res Bool} (h : DQ X T W a f) : DW X T W (.BoolOp .Or [a] pos) f := pw_or1 h
theorem w_or {a b : Expr} {rest : List Expr} {pos : Pos} {f g : Rho → Res Bool} (h : DQ X T W a f) (h2 : DW X T W (.BoolOp .Or (b :: rest) pos) g) : DW X T W (.BoolOp .Or (a :: b :: rest) pos) (orQ f g) :=
  (pw_or h h2).to fun σ H Q ⟨ρ, F, a, h⟩ => by
    refine ⟨ρ, F, a, (aft.bind (R := RBool) h).imp fun d _ v F1 H1 _ _ q => ?_⟩
    obtain ⟨b, F2, _, n, rv, q⟩ := q
    obtain rfl : v = b := rv
    cases v with
    | true => exact q.ok (Nx.refl n.z) rfl
    | false => exact ⟨ρ, F2, a.nx n, q⟩
theorem q_w {e : Expr} {f : Rho → Res Bool} (h : DW X T W e f) : DQ X T W e f := PW.pt h
theorem q_not {a : Expr} {pos : Pos} {f : Rho → Res Bool} (h : DQ X T W a f) : DQ X T W (.UnaryOp .Not a pos) (notQ f) :=
  (pt_not h).to fun σ H Q ⟨ρ, F, a, h⟩ => by
    refine ⟨ρ, F, a, (aft.bind (R := RBool) h).imp fun d _ v F1 H1 _ _ q => ?_⟩
    obtain ⟨b, F2, _, n, rv, q⟩ := q
    obtain rfl : v = b := rv
    exact q.ok (Nx.refl n.z) rfl
theorem e_one {op} {a : Expr} {pos : Pos} {f : Rho → Res D} (h : DE X T W a f) : DE X T W (.BoolOp op [a] pos) f := pe_one h
theorem bool_of {K : PySem.W.Frag} {σ : L2.St} {F H : Hp} {α β : Type} {R : Hp → α → β → Prop} {Q : α → Hp → Prop} {d : D} {v : V} {k : Bool → Res β} (rv : Rp K F v d) (q : aft R K T W σ F H Q ((ans d).bind k)) : ∃ c, v = .bl c ∧ d = .bl c ∧ aft R K T W σ F H Q (k c) := by
  cases rv with
  | bl c => exact ⟨c, rfl, rfl, q⟩
  | _ => exact q.elim
theorem e_and {a b : Expr} {rest : List Expr} {pos : Pos} {f g : Rho → Res D} (h : DE X T W a f) (h2 : DE X T W (.BoolOp .And (b :: rest) pos) g) : DE X T W (.BoolOp .And (a :: b :: rest) pos) (andE f g) :=
  (pe_and h h2).to fun σ H Q ⟨ρ, F, a, h⟩ => by
    refine ⟨ρ, F, a, (aft.bind (R := Rp X.K) h).imp fun d _ v F1 H1 _ _ q => ?_⟩
    obtain ⟨b, F2, _, n, rv, q⟩ := q
    obtain ⟨c, rfl, rfl, q⟩ := bool_of rv q
    refine ⟨c, rfl, ?_⟩
    cases c with
    | true => exact ⟨ρ, F2, a.nx n, q⟩
    | false => exact q.ok (Nx.refl n.z) (.bl false)
theorem e_or {a b : Expr} {rest : List Expr} {pos : Pos} {f g : Rho → Res D} (h : DE X T W a f) (h2 : DE X T W (.BoolOp .Or (b :: rest) pos) g) : DE X T W (.BoolOp .Or (a :: b :: rest) pos) (orE f g) :=
  (pe_or h h2).to fun σ H Q ⟨ρ, F, a, h⟩ => by
    refine ⟨ρ, F, a, (aft.bind (R := Rp X.K) h).imp fun d _ v F1 H1 _ _ q => ?_⟩
    obtain ⟨b, F2, _, n, rv, q⟩ := q
    obtain ⟨c, rfl, rfl, q⟩ := bool_of rv q
    refine ⟨c, rfl, ?_⟩
    cases c with
    | true => exact q.ok (Nx.refl n.z) (.bl true)
    | false => exact ⟨ρ, F2, a.nx n, q⟩
theorem e_not {a : Expr} {pos : Pos} {f : Rho → Res D} (h : DE X T W a f) : DE X T W (.UnaryOp .Not a pos) (notE f) :=
  (pe_not h).to fun σ H Q ⟨ρ, F, a, h⟩ => by
    refine ⟨ρ, F, a, (aft.bind (R := Rp X.K) h).imp fun d _ v F1 H1 _ _ q => ?_⟩
    obtain ⟨b, F2, _, n, rv, q⟩ := q
    obtain ⟨c, rfl, rfl, q⟩ := bool_of rv q
    exact ⟨c, rfl, q.ok (Nx.refl n.z) (.bl _)⟩
end

/-! ### displays, subscripts, slices -/
def mkT (f : Rho → Res (List D)) : Rho → Res D := fun ρ => (f ρ).bind fun ds => if ds.length ≤ sizeLine then .ok (.tup ds) else .bad
def mkL (f : Rho → Res (List D)) : Rho → Res D := fun ρ => (f ρ).bind fun ds => if ds.length ≤ sizeLine then .ok (.lst ds) else .bad
def ixD : D → D → Option D
  | .tup xs, .int i => atI xs i
  | .lst xs, .int i => atI xs i
  | .arr ns, .int i => (atI ns i).map .int
  | .str x, .int i => if x.length ≤ sizeLine then (atI x.cps.toList i).map fun c => .str ⟨#[c]⟩ else none
  | _, _ => none
def cutD (xs : List D) (lo hi : Option Int) : List D := (xs.drop (HT.sIx xs.length 0 lo)).take (HT.sIx xs.length xs.length hi - HT.sIx xs.length 0 lo)
def slD : D → Option Int → Option Int → Option D
  | .tup xs, lo, hi => some (.tup (cutD xs lo hi))
  | .lst xs, lo, hi => some (.lst (cutD xs lo hi))
  | .str x, lo, hi => if x.length ≤ sizeLine then some (.str (cutS x lo hi)) else none
  | _, _, _ => none
def pno : Rho → Res (Option Int) := fun _ => .ok none
def intO : D → Res (Option Int)
  | .int i => .ok (some i)
  | _ => .bad
def psm (f : Rho → Res D) : Rho → Res (Option Int) := fun ρ => (f ρ).bind intO
def slc (f : Rho → Res D) (g h : Rho → Res (Option Int)) : Rho → Res D := fun ρ => (f ρ).bind fun d => (g ρ).bind fun lo => (h ρ).bind fun hi => ofO (slD d lo hi)
section
variable {X : Cx} {T : List (Addr × Str)} {W : WX}
theorem e_tup {es : List Expr} {x1} {pos : Pos} {f : Rho → Res (List D)} (h : DA X T W es f) : DE X T W (.Tuple es x1 pos) (mkT f) :=
  (pe_tup h).to fun σ H Q ⟨ρ, F, a, h⟩ => by
    refine ⟨ρ, F, a, (aft.bind (R := RpAll X.K) h).imp fun d _ v F1 H1 _ _ q => ?_⟩
    obtain ⟨ds, F2, _, n, rv, q⟩ := q
    have q : aft (Rp X.K) X.K T W σ F2 H1 Q (if ds.length ≤ sizeLine then .ok (.tup ds) else .bad) := q
    split at q
    · rename_i hl
      exact ⟨by rw [rv.length]; exact hl, fun p hp => q _ _ _ (Nx.push n.z hp ntT) (rp_tup n.z hp rv)⟩
    · exact q.elim
theorem e_lst {es : List Expr} {pos : Pos} {f : Rho → Res (List D)} (h : DA X T W es f) : DE X T W (.List es pos) (mkL f) :=
  (pe_lst h).to fun σ H Q ⟨ρ, F, a, h⟩ => by
    refine ⟨ρ, F, a, (aft.bind (R := RpAll X.K) h).imp fun d _ v F1 H1 _ _ q => ?_⟩
    obtain ⟨ds, F2, _, n, rv, q⟩ := q
    have q : aft (Rp X.K) X.K T W σ F2 H1 Q (if ds.length ≤ sizeLine then .ok (.lst ds) else .bad) := q
    split at q
    · rename_i hl
      exact ⟨by rw [rv.length]; exact hl, fun p hp => q _ _ _ (Nx.push n.z hp ntL) (rp_lst n.z hp rv)⟩
    · exact q.elim
theorem atI_get {K : PySem.W.Frag} {F : Hp} {xs : List V} {ds : List D} {i : Int} {d : D} (r : RpAll K F xs ds) (h : atI ds i = some d) : ∃ v, atI xs i = some v ∧ Rp K F v d := by
  unfold atI at h ⊢
  rw [r.length]
  cases e : ixN ds.length i with
  | none => rw [e] at h; cases h
  | some j =>
    rw [e] at h
    exact r.get h
theorem atI_int {ns : List Int} {i : Int} {z : D} (h : (atI ns i).map D.int = some z) : ∃ n, atI (ns.map V.int) i = some (.int n) ∧ z = .int n := by
  unfold atI at h ⊢
  rw [List.length_map]
  cases e : ixN ns.length i with
  | none => rw [e] at h; cases h
  | some j =>
    rw [e] at h
    have h : (ns[j]?).map D.int = some z := h
    show ∃ n, (ns.map V.int)[j]? = some (.int n) ∧ z = .int n
    rw [List.getElem?_map]
    cases q : ns[j]? with
    | none => rw [q] at h; cases h
    | some n =>
      rw [q] at h
      cases h
      exact ⟨n, rfl, rfl⟩
theorem x_ix : IxR X (rD2 X.K T ixD) := by
  intro value slice pins s σ H x y v u Q I rx ry h hs
  obtain ⟨F, d, e, z, hz, rd, re, hG, q⟩ := h
  cases rd with
  | tup h1 r1 =>
    cases re with
    | int i =>
      obtain ⟨w, hw, rw'⟩ := atI_get r1 hG
      exact ix_tup value slice pins s σ H _ _ v u Q I rx ry ⟨_, _, i, w, rfl, rfl, hz.sub.st h1, hw, done0 hz q rw'⟩ hs
    | _ => cases hG
  | lst h1 r1 =>
    cases re with
    | int i =>
      obtain ⟨w, hw, rw'⟩ := atI_get r1 hG
      exact ix_list value slice pins s σ H _ _ v u Q I rx ry ⟨_, _, i, w, rfl, rfl, SqL.of (hz.sub _ _ h1), hw, done0 hz q rw'⟩ hs
    | _ => cases hG
  | arr h1 =>
    cases re with
    | int i =>
      obtain ⟨n, hn, rfl⟩ := atI_int hG
      exact ix_list value slice pins s σ H _ _ v u Q I rx ry ⟨_, _, i, .int n, rfl, rfl, hz.sub.sl h1, hn, done0 hz q (.int n)⟩ hs
    | _ => cases hG
  | str x =>
    cases re with
    | int i =>
      have hG : (if x.length ≤ sizeLine then (atI x.cps.toList i).map fun c => D.str ⟨#[c]⟩ else none) = some z := hG
      split at hG
      · rename_i hl
        cases e : atI x.cps.toList i with
        | none => rw [e] at hG; cases hG
        | some c =>
          rw [e] at hG
          cases hG
          exact ix_str value slice pins s σ H _ _ v u Q I rx ry ⟨x, i, c, rfl, rfl, hl, e, done0 hz q (.str _)⟩ hs
      · cases hG
    | _ => cases hG
  | _ => cases hG
theorem e_ix {a b : Expr} {f g : Rho → Res D} {pos : Pos} (ha : DE X T W a f) (hb : DE X T W b g) (hs : PlainIx b := by exact fun _ _ => rfl) : DE X T W (.Subscript a b pos) (bop ixD f g) :=
  (pe_ix x_ix ha hb hs).to fun _ _ _ h => bin_to h
abbrev DO (X : Cx) (T : List (Addr × Str)) (W : WX) (e : Option Expr) (f : Rho → Res (Option Int)) : Prop := PO X e (tG (fun _ _ a b => a = b) X.K T W f)
theorem _root_.L2.PO.to {X : Cx} {e : Option Expr} {t u : TO} (h : PO X e t) (k : ∀ σ H Q, u σ H Q → t σ H Q) : PO X e u := ⟨fun pins s σ H Q I q => h.run pins s σ H Q I (k σ H Q q)⟩
theorem p_none : DO X T W none pno := po_none.to fun σ H Q ⟨ρ, F, a, h⟩ => h _ F H (Nx.refl a.z) rfl
theorem p_some {e : Expr} {f : Rho → Res D} (h : DE X T W e f) : DO X T W (some e) (psm f) :=
  (po_some h).to fun σ H Q ⟨ρ, F, a, h⟩ => by
    refine ⟨ρ, F, a, (aft.bind (R := Rp X.K) h).imp fun d _ v F1 H1 _ _ q => ?_⟩
    obtain ⟨b, F2, _, n, rv, q⟩ := q
    cases rv with
    | int i => exact ⟨i, rfl, q.ok (Nx.refl n.z) rfl⟩
    | _ => exact q.elim
theorem RpAll.cut {K : PySem.W.Frag} {F : Hp} {xs : List V} {ds : List D} (r : RpAll K F xs ds) (lo hi : Option Int) : RpAll K F (cutV xs lo hi) (cutD ds lo hi) := by
  unfold cutV cutD
  rw [r.length]
  exact (r.drop _).take _
theorem cut_whole {ds : List D} {lo hi : Option Int} (h : HT.sIx ds.length 0 lo = 0 ∧ HT.sIx ds.length ds.length hi = ds.length) : cutD ds lo hi = ds := by
  unfold cutD
  rw [h.1, h.2]
  simp
def rSlD (K : PySem.W.Frag) (T : List (Addr × Str)) : V → Option Int → Option Int → Hp → VK → Prop := fun x lo hi H Q =>
  ∃ F d z, Fz F H ∧ Rp K F x d ∧ slD d lo hi = some z ∧ ∀ v F' H', Nx T F H F' H' → Rp K F' v z → Q v H'
theorem x_sl : SlR X (rSlD X.K T) := by
  intro pins s σ H x v vl vu lo hi sl Q I rx hs pl pu h
  obtain ⟨F, d, z, hz, rd, hG, q⟩ := h
  cases rd with
  | tup h1 r1 =>
    cases hG
    refine sl_tupA pins s σ H _ v vl vu lo hi sl Q I rx hs pl pu ⟨_, _, rfl, hz.sub.st h1, fun hw => ?_, fun _ p hp => donep hz hp ntT q (rp_tup hz hp (r1.cut lo hi))⟩
    rw [r1.length] at hw
    rw [cut_whole hw] at q
    exact done0 hz q (.tup h1 r1)
  | lst h1 r1 =>
    cases hG
    exact sl_list pins s σ H _ v vl vu lo hi sl Q I rx hs pl pu ⟨_, _, rfl, SqL.of (hz.sub _ _ h1), fun p hp => donep hz hp ntL q (rp_lst hz hp (r1.cut lo hi))⟩
  | str x =>
    have hG : (if x.length ≤ sizeLine then some (D.str (cutS x lo hi)) else none) = some z := hG
    split at hG
    · rename_i hl
      cases hG
      exact sl_str pins s σ H _ v vl vu lo hi sl Q I rx hs pl pu ⟨x, rfl, hl, done0 hz q (.str _)⟩
    · cases hG
  | _ => cases hG
theorem e_sl {e : Expr} {lo hi : Option Expr} {f : Rho → Res D} {g h : Rho → Res (Option Int)} {p2 pos : Pos} (he : DE X T W e f) (hl : DO X T W lo g) (hh : DO X T W hi h) : DE X T W (.Subscript e (.Slice lo hi none p2) pos) (slc f g h) :=
  (pe_slice x_sl he hl hh).to fun σ H Q ⟨ρ, F, a, h⟩ => by
    refine ⟨ρ, F, a, (aft.bind (R := Rp X.K) h).imp fun d _ v F1 H1 _ _ q => ?_⟩
    obtain ⟨b, F2, _, n, rv, q⟩ := q
    refine ⟨ρ, F2, a.nx n, (aft.bind (R := fun _ a b => a = b) q).imp fun lo _ v' F3 H3 _ _ q => ?_⟩
    obtain ⟨lo', F4, _, n2, rl, q⟩ := q
    subst rl
    refine ⟨ρ, F4, a.nx (n.trans n2), (aft.bind (R := fun _ a b => a = b) q).imp fun hi _ v'' F5 H5 _ _ q => ?_⟩
    obtain ⟨hi', F6, _, n3, rh, q⟩ := q
    subst rh
    obtain ⟨z, hz, q⟩ := ofO_ok q
    exact ⟨F6, b, z, n3.z, rv.mono (n2.trans n3).f, hz, q⟩
end

/-! ### calls of built-ins -/
section
variable {X : Cx} {T : List (Addr × Str)} {W : WX}
theorem cal_to {K : PySem.W.Frag} {G : List D → Option D} {f : Rho → Res (List D)} {σ : L2.St} {H : Hp} {Q : VK} (h : tE K T W (cal G f) σ H Q) : tCB (rDn K T G) (tA K T W f) σ H Q := by
  obtain ⟨ρ, F, a, h⟩ := h
  refine ⟨ρ, F, a, (aft.bind (R := RpAll K) h).imp fun d _ v F1 H1 _ _ q => ?_⟩
  obtain ⟨b, F2, _, n, rv, q⟩ := q
  obtain ⟨z, hz, q⟩ := ofO_ok q
  exact ⟨F2, b, z, n.z, rv, hz, q⟩
theorem e_callB {id : String} {x : Str} {G : List D → Option D} {e : Expr} {es : List Expr} {p pos : Pos} {f : Rho → Res (List D)} (hc : CallR X (.builtin id) (rDn X.K T G)) (hg : Gl X x) (hm : X.mg x = none) (hv : bootBuiltins x = some (.builtin id)) (ha : DA X T W (e :: es) f)
    (hn : x ≠ "__name__" := by decide) (hdb : (x == ("__debug__" : Str)) = false := by decide) (hpl : starEach (e :: es) X.env = (false, eval e X.env) :: starEach es X.env := by rfl) (hpl2 : (backTo pos (starEach es X.env)).any (·.1) = false := by rfl) : DE X T W (.Call (.Name x p) (e :: es) [] pos) (cal G f) :=
  (pe_callB hc hg hm hv ha hn hdb hpl hpl2).to fun _ _ _ h => cal_to h
theorem e_callTy {T' : String} {x : Str} {G : List D → Option D} {e : Expr} {es : List Expr} {p pos : Pos} {f : Rho → Res (List D)} (hc : CallR X (.type T') (rDn X.K T G)) (hg : Gl X x) (hm : X.mg x = none) (hv : bootBuiltins x = some (.type T')) (ha : DA X T W (e :: es) f)
    (hn : x ≠ "__name__" := by decide) (hdb : (x == ("__debug__" : Str)) = false := by decide) (hpl : starEach (e :: es) X.env = (false, eval e X.env) :: starEach es X.env := by rfl) (hpl2 : (backTo pos (starEach es X.env)).any (·.1) = false := by rfl) : DE X T W (.Call (.Name x p) (e :: es) [] pos) (cal G f) :=
  (pe_callTy hc hg hm hv ha hn hdb hpl hpl2).to fun _ _ _ h => cal_to h
end
def lenD : List D → Option D
  | [.str x] => if x.length ≤ sizeLine then some (.int x.length) else none
  | [.tup xs] => some (.int xs.length)
  | [.lst xs] => some (.int xs.length)
  | [.arr ns] => some (.int ns.length)
  | _ => none
def absD : List D → Option D
  | [.int i] => some (.int (if i < 0 then -i else i))
  | _ => none
def maxD : List D → Option D
  | [.int i, .int j] => some (.int (if j > i then j else i))
  | _ => none
def minD : List D → Option D
  | [.int i, .int j] => some (.int (if j < i then j else i))
  | _ => none
def intD : List D → Option D
  | [.int i] => some (.int i)
  | [.bl k] => some (.int (if k then 1 else 0))
  | [.str x] => if x.length ≤ 640 then (PySem.intText? x).map .int else none
  | _ => none
def tupD : List D → Option D
  | [.lst xs] => some (.tup xs)
  | [.tup xs] => some (.tup xs)
  | _ => none
def listD : List D → Option D
  | [.lst xs] => some (.lst xs)
  | [.tup xs] => some (.lst xs)
  | [.str x] => if x.length ≤ 1000000 then some (.lst (x.cps.toList.map fun c => .str ⟨#[c]⟩)) else none
  | _ => none
def allB : List D → Option (List Bool)
  | [] => some []
  | .bl b :: r => (allB r).map (b :: ·)
  | _ => none
def allD : List D → Option D
  | [.lst xs] => (allB xs).map fun bs => .bl (bs.all id)
  | _ => none
def tyD : D → Option String
  | .non => some "NoneType"
  | .bl _ => some "bool"
  | .int _ => some "int"
  | .str _ => some "str"
  | .lst _ => some "list"
  | .tup _ => some "tuple"
  | _ => none
def isiD : List D → Option D
  | [d, .ty n] => (tyD d).bind fun t => (kitB t n).map .bl
  | _ => none
section
variable {X : Cx} {T : List (Addr × Str)} {W : WX}
theorem all1 {K : PySem.W.Frag} {F : Hp} {xs : List V} {d : D} (r : RpAll K F xs [d]) : ∃ v, xs = [v] ∧ Rp K F v d := by
  cases r with
  | cons h t => cases t; exact ⟨_, rfl, h⟩
theorem all2 {K : PySem.W.Frag} {F : Hp} {xs : List V} {d e : D} (r : RpAll K F xs [d, e]) : ∃ v w, xs = [v, w] ∧ Rp K F v d ∧ Rp K F w e := by
  cases r with
  | cons h t =>
    obtain ⟨w, rfl, h2⟩ := all1 t
    exact ⟨_, w, rfl, h, h2⟩
theorem c_len : CallR X (.builtin "len") (rDn X.K T lenD) := by
  intro pins s σ H xs us Q I r h
  obtain ⟨F, ds, z, hz, rs, hG, q⟩ := h
  unfold lenD at hG
  split at hG
  · rename_i x
    obtain ⟨v, rfl, rv⟩ := all1 rs
    cases rv
    split at hG
    · rename_i hl
      cases hG
      exact call_len_str pins s σ H _ us Q I r ⟨x, rfl, hl, done0 hz q (.int _)⟩
    · cases hG
  · obtain ⟨v, rfl, rv⟩ := all1 rs
    cases hG
    cases rv with
    | tup h1 r1 => exact call_len_seq pins s σ H _ us Q I r ⟨_, _, rfl, .inr (hz.sub.st h1), by rw [r1.length]; exact done0 hz q (.int _)⟩
  · obtain ⟨v, rfl, rv⟩ := all1 rs
    cases hG
    cases rv with
    | lst h1 r1 => exact call_len_seq pins s σ H _ us Q I r ⟨_, _, rfl, .inl (SqL.of (hz.sub _ _ h1)), by rw [r1.length]; exact done0 hz q (.int _)⟩
  · obtain ⟨v, rfl, rv⟩ := all1 rs
    cases hG
    cases rv with
    | arr h1 => exact call_len_seq pins s σ H _ us Q I r ⟨_, _, rfl, .inl (hz.sub.sl h1), by rw [List.length_map]; exact done0 hz q (.int _)⟩
  · cases hG
theorem c_int : CallR X (.type "int") (rDn X.K T intD) := by
  intro pins s σ H xs us Q I r h
  obtain ⟨F, ds, z, hz, rs, hG, q⟩ := h
  unfold intD at hG
  split at hG
  · obtain ⟨v, rfl, rv⟩ := all1 rs
    cases rv
    cases hG
    exact call_int1 pins s σ H _ us Q I r (.inl ⟨_, rfl, done0 hz q (.int _)⟩)
  · obtain ⟨v, rfl, rv⟩ := all1 rs
    cases rv
    cases hG
    exact call_int1 pins s σ H _ us Q I r (.inr ⟨_, rfl, done0 hz q (.int _)⟩)
  · rename_i x
    obtain ⟨v, rfl, rv⟩ := all1 rs
    cases rv
    split at hG
    · rename_i hl
      cases e : PySem.intText? x with
      | none => rw [e] at hG; cases hG
      | some n =>
        rw [e] at hG
        cases hG
        exact call_int_str pins s σ H _ us Q I r ⟨x, n, rfl, e, hl, done0 hz q (.int _)⟩
    · cases hG
  · cases hG
theorem c_tup : CallR X (.type "tuple") (rDn X.K T tupD) := by
  intro pins s σ H xs us Q I r h
  obtain ⟨F, ds, z, hz, rs, hG, q⟩ := h
  unfold tupD at hG
  split at hG
  · obtain ⟨v, rfl, rv⟩ := all1 rs
    cases hG
    cases rv with
    | lst h1 r1 => exact call_tuple_of pins s σ H _ us Q I r ⟨_, _, rfl, .inl ⟨SqL.of (hz.sub _ _ h1), fun p hp => donep hz hp ntT q (rp_tup hz hp r1)⟩⟩
  · obtain ⟨v, rfl, rv⟩ := all1 rs
    cases hG
    cases rv with
    | tup h1 r1 => exact call_tuple_of pins s σ H _ us Q I r ⟨_, _, rfl, .inr ⟨hz.sub.st h1, done0 hz q (.tup h1 r1)⟩⟩
  · cases hG
theorem vals_signs {x : Str} : ∀ (cs : List Nat) (us : List Value) (k : Nat), x.cps.toList.drop k = cs → us.length = cs.length → (∀ j v, us[j]? = some v → ∃ c u, x.cps[k + j]? = some c ∧ v = .str ⟨#[c]⟩ u) → Vals (cs.map fun c => V.str ⟨#[c]⟩) us
  | [], [], _, _, _, _ => .nil
  | [], _ :: _, _, _, h, _ => by simp at h
  | _ :: _, [], _, _, h, _ => by simp at h
  | c :: cs, u :: us, k, hd, hl, h => by
    obtain ⟨c', t, h1, h2⟩ := h 0 u rfl
    have e : x.cps.toList[k]? = some c := by
      have := congrArg (fun l => l[0]?) hd
      simpa [List.getElem?_drop] using this
    have e2 : x.cps[k + 0]? = some c := by simpa using e
    rw [e2] at h1
    cases h1
    refine .cons ⟨t, h2⟩ (vals_signs (x := x) cs us (k + 1) ?_ (by simpa using hl) fun j v hj => ?_)
    · have := congrArg List.tail hd
      simpa [List.tail_drop] using this
    · obtain ⟨c2, t2, h3, h4⟩ := h (j + 1) v (by simpa using hj)
      exact ⟨c2, t2, by rw [show k + 1 + j = k + (j + 1) by omega]; exact h3, h4⟩
theorem call_list_text (hc : X.calm = true) : CallR X (.type "list") (fun xs H Q => ∃ x : Str, xs = [.str x] ∧ x.length ≤ sizeLine ∧ ∀ l, H l = none → Q (.ref l) (upd H l (.lst (x.cps.toList.map fun c => V.str ⟨#[c]⟩)))) := by
  intro pins s σ H xs us Q I r h
  obtain ⟨x, rfl, hz, q⟩ := h
  obtain ⟨u, rfl, t, rfl⟩ := vals1 r
  refine call_list_str (I.ok.hd hc) x t (fun h' tk acc' c' kp e hacc => ?_) (hn := hz)
  have vs : Vals (x.cps.toList.map fun c => V.str ⟨#[c]⟩) acc'.toList := by
    refine vals_signs (x := x) x.cps.toList acc'.toList 0 (by simp) (by have := hacc.1; simp [this]) fun j v hj => ?_
    obtain ⟨c, u, h1, h2⟩ := hacc.2 j v (by simpa using hj)
    exact ⟨c, u, by rw [Nat.zero_add]; exact h1, h2⟩
  refine ⟨.ref s.heap.objs.size, _, I.laid (t' := tk) kp (Nat.le_refl _) (show ObjOk X.prog X.w _ h' _ (.lst (x.cps.toList.map fun c => V.str ⟨#[c]⟩)) from ⟨?_, acc'.toList, c', vs, ?_⟩), rfl, q _ (I.hok.fresh (Nat.le_refl _))⟩
  · rw [List.length_map]
    simpa [Str.length] using hz
  · simpa using e
theorem rp_signs {K : PySem.W.Frag} {F : Hp} (x : Str) : RpAll K F (x.cps.toList.map fun c => V.str ⟨#[c]⟩) (x.cps.toList.map fun c => D.str ⟨#[c]⟩) := by
  induction x.cps.toList with
  | nil => exact .nil
  | cons c l ih => exact .cons (.str _) ih
theorem c_list (hc : X.calm = true) : CallR X (.type "list") (rDn X.K T listD) := by
  intro pins s σ H xs us Q I r h
  obtain ⟨F, ds, z, hz, rs, hG, q⟩ := h
  unfold listD at hG
  split at hG
  · obtain ⟨v, rfl, rv⟩ := all1 rs
    cases hG
    cases rv with
    | lst h1 r1 => exact call_list_of pins s σ H _ us Q I r ⟨_, _, rfl, .inl (SqL.of (hz.sub _ _ h1)), fun p hp => donep hz hp ntL q (rp_lst hz hp r1)⟩
  · obtain ⟨v, rfl, rv⟩ := all1 rs
    cases hG
    cases rv with
    | tup h1 r1 => exact call_list_of pins s σ H _ us Q I r ⟨_, _, rfl, .inr (hz.sub.st h1), fun p hp => donep hz hp ntL q (rp_lst hz hp r1)⟩
  · rename_i x
    obtain ⟨v, rfl, rv⟩ := all1 rs
    cases rv with
    | str _ =>
      split at hG
      · rename_i hx
        cases hG
        exact call_list_text hc pins s σ H _ us Q I r ⟨x, rfl, by rw [sizeLine_eq]; omega, fun p hp => donep hz hp ntL q (rp_lst hz hp (rp_signs x))⟩
      · cases hG
  · cases hG
theorem allB_rp {K : PySem.W.Frag} {F : Hp} : ∀ {ds : List D} {xs : List V} {bs : List Bool}, RpAll K F xs ds → allB ds = some bs → xs = bs.map V.bl
  | [], _, bs, .nil, h => by cases h; rfl
  | .bl b :: ds, _, bs, .cons r t, h => by
    have h : (allB ds).map (b :: ·) = some bs := h
    cases e : allB ds with
    | none => rw [e] at h; cases h
    | some bs' =>
      rw [e] at h
      cases h
      cases r
      rw [allB_rp t e] <;> rfl
  | .non :: _, _, _, _, h => by cases h
  | .int _ :: _, _, _, _, h => by cases h
  | .str _ :: _, _, _, _, h => by cases h
  | .lst _ :: _, _, _, _, h => by cases h
  | .tup _ :: _, _, _, _, h => by cases h
  | .fn _ :: _, _, _, _, h => by cases h
  | .ty _ :: _, _, _, _, h => by cases h
  | .dK _ :: _, _, _, _, h => by cases h
  | .dT _ :: _, _, _, _, h => by cases h
  | .arr _ :: _, _, _, _, h => by cases h
  | .pro _ :: _, _, _, _, h => by cases h
  | .dic _ _ _ _ :: _, _, _, _, h => by cases h
  | .adr _ :: _, _, _, _, h => by cases h
  | .ins _ _ _ :: _, _, _, _, h => by cases h
theorem c_all (hc : X.calm = true) : CallR X (.builtin "all") (rDn X.K T allD) := by
  intro pins s σ H xs us Q I r h
  obtain ⟨F, ds, z, hz, rs, hG, q⟩ := h
  unfold allD at hG
  split at hG
  · rename_i es
    obtain ⟨v, rfl, rv⟩ := all1 rs
    cases e : allB es with
    | none => rw [e] at hG; cases hG
    | some bs =>
      rw [e] at hG
      cases hG
      cases rv with
      | lst h1 r1 =>
        have ex := allB_rp r1 e
        subst ex
        exact cr_all hc pins s σ H _ us Q I r ⟨_, bs, rfl, SqL.of (hz.sub _ _ h1), done0 hz q (.bl _)⟩
  · cases hG
theorem ty_of {K : PySem.W.Frag} {F H : Hp} {v : V} {d : D} {t : String} (hz : Fz F H) (r : Rp K F v d) (h : tyD d = some t) : TyX K H v (.type t) := by
  cases r with
  | non => cases h; exact .base .non
  | bl b => cases h; exact .base (.bl b)
  | int i => cases h; exact .base (.int i)
  | str x => cases h; exact .base (.str x)
  | lst h1 _ => cases h; exact .base (.lst (hz.sub _ _ h1))
  | tup h1 _ =>
    cases h
    rcases h1 with (h1 | ⟨o, h1⟩) | ⟨o, its, n, hk, hc, _⟩
    · exact .base (.tup (hz.sub _ _ h1))
    · exact .fTuple (hz.sub _ _ h1)
    · exact .kTuple hk hc
  | _ => cases h
theorem c_isi : CallR X (.builtin "isinstance") (rDn X.K T isiD) := by
  intro pins s σ H xs us Q I r h
  obtain ⟨F, ds, z, hz, rs, hG, q⟩ := h
  unfold isiD at hG
  split at hG
  · rename_i d n
    obtain ⟨v, w, rfl, rv, rw'⟩ := all2 rs
    cases rw'
    cases e : tyD d with
    | none => rw [e] at hG; cases hG
    | some t =>
      rw [e] at hG
      have hG : (kitB t n).map D.bl = some z := hG
      cases e2 : kitB t n with
      | none => rw [e2] at hG; cases hG
      | some b =>
        rw [e2] at hG
        cases hG
        exact call_isi pins s σ H _ us Q I r ⟨v, _, _, _, b, rfl, .ty n, ty_of hz rv e, kit_ty e2, done0 hz q (.bl b)⟩
  · cases hG
end
end DN
namespace DN
open PySem PySem.Spec PyProof.Rows L2
open LamX (Tabs ExtN)

/-! ### == and != of data -/
def flatD : D → Bool
  | .non => true
  | .bl _ => true
  | .int _ => true
  | .str _ => true
  | _ => false
mutual
def eqd : D → D → Bool
  | .non, .non => true
  | .bl a, .bl b => a == b
  | .bl a, .int j => (if a then 1 else 0) == j
  | .int i, .bl b => i == (if b then 1 else 0)
  | .int i, .int j => i == j
  | .str x, .str y => x == y
  | .lst xs, .lst ys => eqds xs ys
  | .tup xs, .tup ys => eqds xs ys
  | _, _ => false
def eqds : List D → List D → Bool
  | [], [] => true
  | x :: xs, y :: ys => eqd x y && eqds xs ys
  | _, _ => false
end
mutual
/-- plain data that is no deeper than n -/
def plain : Nat → D → Bool
  | _, .non => true
  | _, .bl _ => true
  | _, .int _ => true
  | _, .str x => PyData.strOk x
  | n + 1, .lst xs => plains n xs
  | n + 1, .tup xs => plains n xs
  | _, _ => false
def plains : Nat → List D → Bool
  | _, [] => true
  | n, x :: xs => plain n x && plains n xs
end
mutual
def pyO : D → PyData
  | .non => .none
  | .bl b => .bool b
  | .int i => .int i
  | .str x => .str x
  | .lst xs => .list (pyA xs)
  | .tup xs => .tuple (pyA xs)
  | _ => .none
def pyA : List D → List PyData
  | [] => []
  | x :: xs => pyO x :: pyA xs
end
mutual
theorem plain_py {K : PySem.W.Frag} {H : Hp} : ∀ (n : Nat) (d : D) (v : V), plain n d = true → Rp K H v d → Dp K H v (pyO d) ∧ (pyO d).canLay0 = true ∧ (pyO d).depth ≤ n
  | n, .non, _, _, .non => by
    unfold pyO
    exact ⟨.non, by simp [PyData.canLay0], by simp [PyData.depth]⟩
  | n, .bl b, _, _, .bl _ => by
    unfold pyO
    exact ⟨.bl b, by simp [PyData.canLay0], by simp [PyData.depth]⟩
  | n, .int b, _, _, .int _ => by
    unfold pyO
    exact ⟨.int b, by simp [PyData.canLay0], by simp [PyData.depth]⟩
  | n, .str b, _, h, .str _ => by
    unfold plain at h
    unfold pyO
    exact ⟨.str b, by simpa [PyData.canLay0] using h, by simp [PyData.depth]⟩
  | n + 1, .lst xs, _, h, .lst h1 r => by
    unfold plain at h
    obtain ⟨a, b, c⟩ := plains_py n xs _ h r
    unfold pyO
    exact ⟨.lst (SqL.of h1) a, by simpa [PyData.canLay0] using b, by simp only [PyData.depth]; omega⟩
  | n + 1, .tup xs, _, h, .tup h1 r => by
    unfold plain at h
    obtain ⟨a, b, c⟩ := plains_py n xs _ h r
    unfold pyO
    exact ⟨.tup h1 a, by simpa [PyData.canLay0] using b, by simp only [PyData.depth]; omega⟩
  | 0, .lst xs, _, h, _ => by simp [plain] at h
  | 0, .tup xs, _, h, _ => by simp [plain] at h
  | _, .fn _, _, h, _ => by simp [plain] at h
  | _, .ty _, _, h, _ => by simp [plain] at h
  | _, .dK _, _, h, _ => by simp [plain] at h
  | _, .dT _, _, h, _ => by simp [plain] at h
  | _, .arr _, _, h, _ => by simp [plain] at h
  | _, .pro _, _, h, _ => by simp [plain] at h
  | _, .dic _ _ _ _, _, h, _ => by simp [plain] at h
  | _, .adr _, _, h, _ => by simp [plain] at h
  | _, .ins _ _ _, _, h, _ => by simp [plain] at h
theorem plains_py {K : PySem.W.Frag} {H : Hp} : ∀ (n : Nat) (ds : List D) (vs : List V), plains n ds = true → RpAll K H vs ds → DpAll K H vs (pyA ds) ∧ PyData.canLayAll0 (pyA ds) = true ∧ PyData.depthAll (pyA ds) ≤ n
  | n, [], _, _, .nil => by
    unfold pyA
    exact ⟨.nil, by simp [PyData.canLayAll0], by simp [PyData.depthAll]⟩
  | n, d :: ds, _, h, .cons r t => by
    unfold plains at h
    rw [Bool.and_eq_true] at h
    obtain ⟨a, b, c⟩ := plain_py n d _ h.1 r
    obtain ⟨a2, b2, c2⟩ := plains_py n ds _ h.2 t
    unfold pyA
    exact ⟨.cons a a2, by simp [PyData.canLayAll0, b, b2], by simp only [PyData.depthAll]; omega⟩
end
mutual
theorem eqd_py : ∀ (n m : Nat) (d e : D), plain n d = true → plain m e = true → PyData.eqv (pyO d) (pyO e) = eqd d e
  | n, m, d, e, hd, he => by
    cases d <;> cases e <;> first
      | (simp only [pyO, PyData.eqv, eqd]; done)
      | (cases n <;> simp [plain] at hd; done)
      | (cases m <;> simp [plain] at he; done)
      | (cases n with
         | zero => simp [plain] at hd
         | succ n =>
           cases m with
           | zero => simp [plain] at he
           | succ m =>
             unfold plain at hd he
             simp only [pyO, PyData.eqv, eqd]
             exact eqds_py n m _ _ hd he)
theorem eqds_py : ∀ (n m : Nat) (d e : List D), plains n d = true → plains m e = true → PyData.eqvAll (pyA d) (pyA e) = eqds d e
  | n, m, [], [], _, _ => by simp [pyA, PyData.eqvAll, eqds]
  | n, m, [], _ :: _, _, _ => by simp [pyA, PyData.eqvAll, eqds]
  | n, m, _ :: _, [], _, _ => by simp [pyA, PyData.eqvAll, eqds]
  | n, m, x :: xs, y :: ys, hd, he => by
    unfold plains at hd he
    rw [Bool.and_eq_true] at hd he
    simp only [pyA, PyData.eqvAll, eqds]
    rw [eqd_py n m x y hd.1 he.1, eqds_py n m xs ys hd.2 he.2]
end
def eqOk (d e : D) : Bool := (flatD d && flatD e) || (plain 64 d && plain 64 e)
def eqD (d e : D) : Option D := if eqOk d e = true then some (.bl (eqd d e)) else none
def neD (d e : D) : Option D := if eqOk d e = true then some (.bl (!eqd d e)) else none
section
variable {X : Cx} {T : List (Addr × Str)} {W : WX}
/-- either two scalars that == tells apart, or plain data -/
theorem eq_cases {K : PySem.W.Frag} {F H : Hp} {x y : V} {d e : D} (hz : Fz F H) (rd : Rp K F x d) (re : Rp K F y e) (h : eqOk d e = true) :
    (scal x y = true ∧ decide (x = y) = eqd d e) ∨ (∃ a b, Dp K H x a ∧ Dp K H y b ∧ SeqAt.shaped a = true ∧ SeqAt.shaped b = true ∧ PyData.eqv a b = eqd d e) := by
  have deep : plain 64 d = true → plain 64 e = true → ∃ a b, Dp K H x a ∧ Dp K H y b ∧ SeqAt.shaped a = true ∧ SeqAt.shaped b = true ∧ PyData.eqv a b = eqd d e := fun hd he => by
    obtain ⟨a1, a2, a3⟩ := plain_py 64 d x hd (rd.mono hz.sub)
    obtain ⟨b1, b2, b3⟩ := plain_py 64 e y he (re.mono hz.sub)
    refine ⟨_, _, a1, b1, ?_, ?_, eqd_py 64 64 d e hd he⟩
    · unfold SeqAt.shaped
      rw [a2, decide_eq_true a3] <;> rfl
    · unfold SeqAt.shaped
      rw [b2, decide_eq_true b3] <;> rfl
  unfold eqOk at h
  rw [Bool.or_eq_true, Bool.and_eq_true, Bool.and_eq_true] at h
  rcases h with ⟨h1, h2⟩ | ⟨h1, h2⟩
  · cases rd <;> cases re <;> first
      | (cases h1; done)
      | (cases h2; done)
      | (refine .inr (deep ?_ ?_) <;> simp [plain] <;> done)
      | (refine .inl ⟨rfl, ?_⟩; simp only [eqd]; first | exact dec_str | (simp; done))
  · exact .inr (deep h1 h2)
theorem o_eq (hu : X.A.units + 64 < cLine) : OpR X (compareOp .Eq) (rD2 X.K T eqD) := by
  intro pins s σ H x y v u Q I rx ry h
  obtain ⟨F, d, e, z, hz, rd, re, hG, q⟩ := h
  unfold eqD at hG
  split at hG
  · rename_i hk
    cases hG
    rcases eq_cases hz rd re hk with ⟨h1, h2⟩ | ⟨a, b, h1, h2, h3, h4, h5⟩
    · exact op_eq pins s σ H x y v u Q I rx ry ⟨h1, by rw [h2]; exact done0 hz q (.bl _)⟩
    · exact op_eqD hu pins s σ H x y v u Q I rx ry ⟨a, b, h1, h2, h3, h4, by rw [h5]; exact done0 hz q (.bl _)⟩
  · cases hG
theorem o_ne (hu : X.A.units + 64 < cLine) : OpR X (compareOp .NotEq) (rD2 X.K T neD) := by
  intro pins s σ H x y v u Q I rx ry h
  obtain ⟨F, d, e, z, hz, rd, re, hG, q⟩ := h
  unfold neD at hG
  split at hG
  · rename_i hk
    cases hG
    rcases eq_cases hz rd re hk with ⟨h1, h2⟩ | ⟨a, b, h1, h2, h3, h4, h5⟩
    · exact op_ne pins s σ H x y v u Q I rx ry ⟨h1, by rw [h2]; exact done0 hz q (.bl _)⟩
    · exact op_neD hu pins s σ H x y v u Q I rx ry ⟨a, b, h1, h2, h3, h4, by rw [h5]; exact done0 hz q (.bl _)⟩
  · cases hG
end

/-! ### in, not in -/
def hasS (x y : Str) : Bool := if x.cps.size = 1 then decide (x.cps.getD 0 0 ∈ y.cps.toList) else !(Builtin.Str.occurrences y x 0 y.length 1).isEmpty
def inL (d : D) (xs : List D) : Option Bool := if (flatD d && xs.all flatD) = true then some (xs.any fun y => eqd y d) else if (plain 60 d && plains 60 xs) = true then some (xs.any fun y => eqd y d) else none
def inB : D → D → Option Bool
  | .str x, .str y => some (hasS x y)
  | d, .tup xs => inL d xs
  | d, .lst xs => inL d xs
  | _, _ => none
def inD (d e : D) : Option D := (inB d e).map .bl
def niD (d e : D) : Option D := (inB d e).map fun b => .bl (!b)
section
variable {X : Cx} {T : List (Addr × Str)} {W : WX}
theorem flat_rp {K : PySem.W.Frag} {F : Hp} {v : V} {d : D} (r : Rp K F v d) (h : flatD d = true) : flatV v = true := by
  cases r <;> first | rfl | cases h
theorem flat_all {K : PySem.W.Frag} {F : Hp} : ∀ {vs : List V} {ds : List D}, RpAll K F vs ds → ds.all flatD = true → vs.all flatV = true
  | _, _, .nil, _ => rfl
  | _, _, .cons r t, h => by
    rw [List.all_cons, Bool.and_eq_true] at h
    rw [List.all_cons, flat_rp r h.1, flat_all t h.2] <;> rfl
theorem eqV_eqd {K : PySem.W.Frag} {F : Hp} {v w : V} {d e : D} (r : Rp K F v d) (q : Rp K F w e) (h : flatD d = true) (h2 : flatD e = true) : eqV v w = eqd d e := by
  cases r <;> first
    | (cases h; done)
    | (cases q <;> first | (cases h2; done) | (simp [eqV, eqd]; done))
theorem inV_eq {K : PySem.W.Frag} {F : Hp} {w : V} {e : D} (q : Rp K F w e) (h2 : flatD e = true) : ∀ {vs : List V} {ds : List D}, RpAll K F vs ds → ds.all flatD = true → inV w vs = ds.any fun y => eqd y e
  | _, _, .nil, _ => rfl
  | v :: vs, d :: ds, .cons r t, h => by
    rw [List.all_cons, Bool.and_eq_true] at h
    have ih := inV_eq q h2 t h.2
    unfold inV at ih ⊢
    rw [List.any_cons, List.any_cons, ih, eqV_eqd r q h.1 h2]
theorem one_of {x : Str} (h : x.cps.size = 1) : x = ⟨#[x.cps.getD 0 0]⟩ := by
  obtain ⟨cps⟩ := x
  simp only at h ⊢
  congr 1
  apply Array.ext
  · simp [h]
  · intro i h1 h2
    have : i = 0 := by omega
    subst this
    simp [Array.getD, h]
theorem any_py (d : D) (hd : plain 60 d = true) : ∀ ds : List D, plains 60 ds = true → ((pyA ds).any fun z => PyData.eqv z (pyO d)) = ds.any fun y => eqd y d
  | [], _ => rfl
  | y :: ds, h => by
    have h : (plain 60 y && plains 60 ds) = true := h
    rw [Bool.and_eq_true] at h
    show (PyData.eqv (pyO y) (pyO d) || (pyA ds).any fun z => PyData.eqv z (pyO d)) = _
    rw [eqd_py 60 60 y d h.1 hd, any_py d hd ds h.2]
    rfl
theorem in_deep {pins : List (Addr × Obj)} {s : Shared} {σ : L2.St} {H F : Hp} {x : V} {v u : Value} {a : Addr} {xs : List V} {d : D} {ds : List D} {Q : VK} (hu : X.A.units + 64 < cLine) (I : Inv X pins σ H s) (hz : Fz F H) (rx : RelV x v) (ry : RelV (.ref a) u) (rd : Rp X.K F x d) (hs : SqT X.K F a xs ∨ F a = some (.lst xs)) (r1 : RpAll X.K F xs ds) (hd : plain 60 d = true) (hds : plains 60 ds = true) :
    (Q (.bl (ds.any fun y => eqd y d)) H → wpAny (model X.prog X.w) X.A (compareOp .In v u) (EP X pins σ Q) X.xe s) ∧ (Q (.bl (!ds.any fun y => eqd y d)) H → wpAny (model X.prog X.w) X.A (compareOp .NotIn v u) (EP X pins σ Q) X.xe s) := by
  obtain ⟨a1, a2, a3⟩ := plain_py 60 d x hd (rd.mono hz.sub)
  obtain ⟨b1, b2, b3⟩ := plains_py 60 ds xs hds (r1.mono hz.sub)
  obtain ⟨as, q1⟩ := Dp.reads I _ x v a1 rx
  have room : X.A.units + 1 + min (PyData.depthAll (pyA ds)) (pyO d).depth < cLine := by omega
  rw [← any_py d hd ds hds]
  rcases hs with hs | hs
  · have c1 : Dp X.K H (.ref a) (.tuple (pyA ds)) := Dp.tup (hz.sub.st hs) b1
    obtain ⟨bs, q2⟩ := Dp.reads I _ (.ref a) u c1 ry
    exact ⟨fun q => SeqAt.in_tuple_reads q2 q1 b2 a2 room ⟨.bl _, H, I, rfl, q⟩, fun q => SeqAt.notIn_tuple_reads q2 q1 b2 a2 room ⟨.bl _, H, I, rfl, q⟩⟩
  · have c1 : Dp X.K H (.ref a) (.list (pyA ds)) := Dp.lst (SqL.of (hz.sub _ _ hs)) b1
    obtain ⟨bs, q2⟩ := Dp.reads I _ (.ref a) u c1 ry
    exact ⟨fun q => SeqAt.in_list_reads q2 q1 b2 a2 room ⟨.bl _, H, I, rfl, q⟩, fun q => SeqAt.notIn_list_reads q2 q1 b2 a2 room ⟨.bl _, H, I, rfl, q⟩⟩
theorem o_in (hu : X.A.units + 64 < cLine) : OpR X (compareOp .In) (rD2 X.K T inD) := by
  intro pins s σ H x y v u Q I rx ry h
  obtain ⟨F, d, e, z, hz, rd, re, hG, q⟩ := h
  unfold inD at hG
  cases hb : inB d e with
  | none => rw [hb] at hG; cases hG
  | some b =>
    rw [hb] at hG
    cases hG
    cases re with
    | str y =>
      cases rd with
      | str x =>
        have hb : some (hasS x y) = some b := hb
        unfold hasS at hb
        split at hb
        · rename_i h1
          cases hb
          exact op_in_sign pins s σ H _ _ v u Q I rx ry ⟨x.cps.getD 0 0, y, congrArg V.str (one_of h1), rfl, done0 hz q (.bl _)⟩
        · cases hb
          exact op_in_str pins s σ H _ _ v u Q I rx ry ⟨x, y, rfl, rfl, done0 hz q (.bl _)⟩
      | _ => cases hb
    | tup h1 r1 =>
      rename_i a xs ds
      have hb : inL d ds = some b := by
        cases d <;> exact hb
      unfold inL at hb
      split at hb
      · rename_i hf
        rw [Bool.and_eq_true] at hf
        cases hb
        refine op_in_seq pins s σ H _ _ v u Q I rx ry ⟨a, xs, rfl, .inr (hz.sub.st h1), flat_rp rd hf.1, flat_all r1 hf.2, ?_⟩
        rw [inV_eq rd hf.1 r1 hf.2]
        exact done0 hz q (.bl _)
      · split at hb
        · rename_i hf
          rw [Bool.and_eq_true] at hf
          cases hb
          exact (in_deep hu I hz rx ry rd (.inl h1) r1 hf.1 hf.2).1 (done0 hz q (.bl _))
        · cases hb
    | lst h1 r1 =>
      rename_i a xs ds
      have hb : inL d ds = some b := by
        cases d <;> exact hb
      unfold inL at hb
      split at hb
      · rename_i hf
        rw [Bool.and_eq_true] at hf
        cases hb
        refine op_in_seq pins s σ H _ _ v u Q I rx ry ⟨a, xs, rfl, .inl (SqL.of (hz.sub _ _ h1)), flat_rp rd hf.1, flat_all r1 hf.2, ?_⟩
        rw [inV_eq rd hf.1 r1 hf.2]
        exact done0 hz q (.bl _)
      · split at hb
        · rename_i hf
          rw [Bool.and_eq_true] at hf
          cases hb
          exact (in_deep hu I hz rx ry rd (.inr h1) r1 hf.1 hf.2).1 (done0 hz q (.bl _))
        · cases hb
    | _ => cases rd <;> cases hb
theorem o_ni (hu : X.A.units + 64 < cLine) : OpR X (compareOp .NotIn) (rD2 X.K T niD) := by
  intro pins s σ H x y v u Q I rx ry h
  obtain ⟨F, d, e, z, hz, rd, re, hG, q⟩ := h
  unfold niD at hG
  cases hb : inB d e with
  | none => rw [hb] at hG; cases hG
  | some b =>
    rw [hb] at hG
    cases hG
    cases re with
    | str y =>
      cases rd with
      | str x =>
        have hb : some (hasS x y) = some b := hb
        unfold hasS at hb
        split at hb
        · rename_i h1
          cases hb
          exact op_notIn_sign pins s σ H _ _ v u Q I rx ry ⟨x.cps.getD 0 0, y, congrArg V.str (one_of h1), rfl, done0 hz q (.bl _)⟩
        · cases hb
          exact op_notin_str pins s σ H _ _ v u Q I rx ry ⟨x, y, rfl, rfl, done0 hz q (.bl _)⟩
      | _ => cases hb
    | tup h1 r1 =>
      rename_i a xs ds
      have hb : inL d ds = some b := by
        cases d <;> exact hb
      unfold inL at hb
      split at hb
      · rename_i hf
        rw [Bool.and_eq_true] at hf
        cases hb
        refine op_notIn_seq pins s σ H _ _ v u Q I rx ry ⟨a, xs, rfl, .inr (hz.sub.st h1), flat_rp rd hf.1, flat_all r1 hf.2, ?_⟩
        rw [inV_eq rd hf.1 r1 hf.2]
        exact done0 hz q (.bl _)
      · split at hb
        · rename_i hf
          rw [Bool.and_eq_true] at hf
          cases hb
          exact (in_deep hu I hz rx ry rd (.inl h1) r1 hf.1 hf.2).2 (done0 hz q (.bl _))
        · cases hb
    | lst h1 r1 =>
      rename_i a xs ds
      have hb : inL d ds = some b := by
        cases d <;> exact hb
      unfold inL at hb
      split at hb
      · rename_i hf
        rw [Bool.and_eq_true] at hf
        cases hb
        refine op_notIn_seq pins s σ H _ _ v u Q I rx ry ⟨a, xs, rfl, .inl (SqL.of (hz.sub _ _ h1)), flat_rp rd hf.1, flat_all r1 hf.2, ?_⟩
        rw [inV_eq rd hf.1 r1 hf.2]
        exact done0 hz q (.bl _)
      · split at hb
        · rename_i hf
          rw [Bool.and_eq_true] at hf
          cases hb
          exact (in_deep hu I hz rx ry rd (.inr h1) r1 hf.1 hf.2).2 (done0 hz q (.bl _))
        · cases hb
    | _ => cases rd <;> cases hb
end
end DN
namespace DN
open PySem PySem.Spec PyProof.Rows L2
open LamX (Tabs ExtN)

/-! ### statements -/
inductive SR where
  | nx (ρ : Rho) | rt (d : D) | bk (ρ : Rho) | ct (ρ : Rho) | ex (n : Str) (ρ : Rho) | bad
def bindS {α : Type} (r : Res α) (ρ : Rho) (k : α → SR) : SR := match r with
  | .ok a => k a
  | .ex n => .ex n ρ
  | .bad => .bad
/-- the frame's own objects are new since the entry -/
def Ow (H0 : Hp) (σ : L2.St) (ρ : Rho) : Prop := ∀ (i : Nat) (d : D) (p : Addr), ρ[i]? = some (En.o d) → σ[i]? = some (some (V.ref p)) → ∀ o, H0 p = some o → ∃ ps, o = .tbl ps
structure Sg (K : PySem.W.Frag) (T : List (Addr × Str)) (F0 H0 F H : Hp) (σ : L2.St) (ρ : Rho) : Prop where
  at_ : At K T F H σ ρ
  nx : Nx T F0 H0 F H
  ow : Ow H0 σ ρ
def aftS (K : PySem.W.Frag) (T : List (Addr × Str)) (W : WX) (F0 H0 F : Hp) (Z : Ends) : SR → Prop
  | .nx ρ => ∀ σ F' H', Sg K T F0 H0 F' H' σ ρ → Sub F F' → Z.nx σ H'
  | .bk ρ => ∀ σ F' H', Sg K T F0 H0 F' H' σ ρ → Sub F F' → Z.bk σ H'
  | .ct ρ => ∀ σ F' H', Sg K T F0 H0 F' H' σ ρ → Sub F F' → Z.ct σ H'
  | .rt d => ∀ v F' H', Nx T F0 H0 F' H' → Rp K F' v d → Z.rt v H'
  | .ex n ρ => ∀ σ F' H', Sg K T F0 H0 F' H' σ ρ → Sub F F' → W (.ref (He.ga K n)) none σ H'
  | .bad => False
def tS (K : PySem.W.Frag) (T : List (Addr × Str)) (W : WX) (F0 H0 : Hp) (s : Rho → SR) : TS := fun Z σ H => ∃ ρ F, Sg K T F0 H0 F H σ ρ ∧ aftS K T W F0 H0 F Z (s ρ)
abbrev DS (X : Cx) (T : List (Addr × Str)) (W : WX) (F0 H0 : Hp) (st : Stmt) (s : Rho → SR) : Prop := PS X st (tS X.K T W F0 H0 s)
abbrev DSs (X : Cx) (T : List (Addr × Str)) (W : WX) (F0 H0 : Hp) (st : List Stmt) (s : Rho → SR) : Prop := PSs X st (tS X.K T W F0 H0 s)
section
variable {K : PySem.W.Frag} {T : List (Addr × Str)} {W : WX} {F0 H0 F H F1 H1 : Hp} {σ : L2.St} {ρ : Rho} {Z : Ends}
theorem Sg.step (g : Sg K T F0 H0 F H σ ρ) (n : Nx T F H F1 H1) : Sg K T F0 H0 F1 H1 σ ρ := ⟨g.at_.nx n, g.nx.trans n, g.ow⟩
theorem aftS.mono {r : SR} (e : Sub F F1) (h : aftS K T W F0 H0 F Z r) : aftS K T W F0 H0 F1 Z r := by
  cases r with
  | nx ρ => exact fun σ F' H' g s => h σ F' H' g (e.trans s)
  | bk ρ => exact fun σ F' H' g s => h σ F' H' g (e.trans s)
  | ct ρ => exact fun σ F' H' g s => h σ F' H' g (e.trans s)
  | ex n ρ => exact fun σ F' H' g s => h σ F' H' g (e.trans s)
  | rt d => exact h
  | bad => exact h
theorem aftS.bind {α β : Type} {R : Hp → α → β → Prop} {r : Res β} {k : β → SR} (g : Sg K T F0 H0 F H σ ρ) (h : aftS K T W F0 H0 F Z (bindS r ρ k)) :
    aft R K T W σ F H (fun a H1 => ∃ b F1, r = .ok b ∧ Nx T F H F1 H1 ∧ Sg K T F0 H0 F1 H1 σ ρ ∧ R F1 a b ∧ aftS K T W F0 H0 F1 Z (k b)) r := by
  cases r with
  | ok b => exact fun a F2 H2 n ra => ⟨b, F2, rfl, n, g.step n, ra, aftS.mono n.f h⟩
  | ex m => exact fun F' H' n => h σ F' H' (g.step n) n.f
  | bad => exact h
theorem Ow.set {i : Nat} {v : V} {d : D} (o : Ow H0 σ ρ) : Ow H0 (σ.set i (some v)) (ρ.set i (.z d)) := fun j e p h1 h2 => by
  rw [List.getElem?_set] at h1 h2
  by_cases hij : i = j
  · rw [if_pos hij] at h1
    split at h1 <;> cases h1
  · rw [if_neg hij] at h1 h2
    exact o j e p h1 h2
end
def sskip : Rho → SR := fun ρ => .nx ρ
def sseq (s t : Rho → SR) : Rho → SR := fun ρ => match s ρ with
  | .nx ρ' => t ρ'
  | r => r
def sret (f : Rho → Res D) : Rho → SR := fun ρ => bindS (f ρ) ρ .rt
def sif (c : Rho → Res Bool) (s t : Rho → SR) : Rho → SR := fun ρ => bindS (c ρ) ρ fun b => if b = true then s ρ else t ρ
/-- targets -/
abbrev Tg := Rho → D → Option Rho
abbrev Tgs := Rho → List D → Option Rho
def gn (i : Nat) : Tg := fun ρ d => some (ρ.set i (.z d))
def gsn : Tgs := fun ρ ds => match ds with
  | [] => some ρ
  | _ => none
def gsc (g : Tg) (h : Tgs) : Tgs := fun ρ ds => match ds with
  | d :: r => (g ρ d).bind fun ρ' => h ρ' r
  | [] => none
def gt (n : Nat) (h : Tgs) : Tg := fun ρ d => match d with
  | .tup ds => if ds.length = n then h ρ ds else none
  | .lst ds => if ds.length = n then h ρ ds else none
  | _ => none
def sasg (f : Rho → Res D) (g : Tg) : Rho → SR := fun ρ => bindS (f ρ) ρ fun d => match g ρ d with
  | some ρ' => .nx ρ'
  | none => .bad
def tGd (K : PySem.W.Frag) (T : List (Addr × Str)) (g : Tg) : TG := fun v σ H Q => ∃ ρ F d ρ', At K T F H σ ρ ∧ Rp K F v d ∧ g ρ d = some ρ' ∧ ∀ σ', At K T F H σ' ρ' → (∀ H0, Ow H0 σ ρ → Ow H0 σ' ρ') → Q σ' H
theorem _root_.L2.PG.to {X : Cx} {e : Expr} {t u : TG} (h : PG X e t) (k : ∀ v σ H Q, u v σ H Q → t v σ H Q) : PG X e u := ⟨fun pins s σ H v w Q I r q => h.run pins s σ H v w Q I r (k v σ H Q q)⟩
theorem _root_.L2.PG.or {X : Cx} {e : Expr} {t u : TG} (h : PG X e t) (h2 : PG X e u) : PG X e (fun v σ H Q => t v σ H Q ∨ u v σ H Q) := ⟨fun pins s σ H v w Q I r q => q.elim (h.run pins s σ H v w Q I r) (h2.run pins s σ H v w Q I r)⟩
theorem _root_.L2.PGs.to {X : Cx} {es : List Expr} {t u : TGs} (h : PGs X es t) (k : ∀ v σ H Q, u v σ H Q → t v σ H Q) : PGs X es u := ⟨fun pins s σ H v w Q I r q => h.run pins s σ H v w Q I r (k v σ H Q q)⟩
section
variable {X : Cx} {T : List (Addr × Str)} {W : WX} {F0 H0 : Hp}
abbrev DG (X : Cx) (T : List (Addr × Str)) (e : Expr) (g : Tg) : Prop := PG X e (tGd X.K T g)
theorem g_name {i : Nat} {e : Expr} (h : PG X e (gName i)) : DG X T e (gn i) := h.to fun v σ H Q ⟨ρ, F, d, ρ', a, r, hg, q⟩ => by
  cases hg
  exact q _ ⟨a.z, a.t, a.r.set r⟩ fun H0 o => o.set
theorem s_nil : DSs X T W F0 H0 [] sskip := pss_nil.to fun Z σ H ⟨ρ, F, g, h⟩ => h σ F H g (Sub.refl F)
theorem s_one {st : Stmt} {s : Rho → SR} (h : DS X T W F0 H0 st s) : DSs X T W F0 H0 [st] s := pss_one h
theorem s_cons {st : Stmt} {rest : List Stmt} {s t : Rho → SR} (h : DS X T W F0 H0 st s) (h2 : DSs X T W F0 H0 rest t) : DSs X T W F0 H0 (st :: rest) (sseq s t) :=
  (pss_cons h h2).to fun Z σ H ⟨ρ, F, g, h⟩ => by
    refine ⟨ρ, F, g, ?_⟩
    unfold sseq at h
    cases e : s ρ with
    | nx ρ' =>
      rw [e] at h
      exact fun σ' F' H' g' sb => ⟨ρ', F', g', aftS.mono sb h⟩
    | bk ρ' => rw [e] at h; exact h
    | ct ρ' => rw [e] at h; exact h
    | rt d => rw [e] at h; exact h
    | ex n ρ' => rw [e] at h; exact h
    | bad => rw [e] at h; exact h
theorem s_ret {e : Expr} {pos : Pos} {f : Rho → Res D} (h : DE X T W e f) : DS X T W F0 H0 (.Return (some e) pos) (sret f) :=
  (ps_ret h).to fun Z σ H ⟨ρ, F, g, h⟩ => by
    refine ⟨ρ, F, g.at_, (aftS.bind (R := Rp X.K) g h).imp fun d _ v F1 H1 _ _ q => ?_⟩
    obtain ⟨b, F2, _, n, g2, rv, q⟩ := q
    exact q v F2 H1 g2.nx rv
theorem s_if {c : Expr} {a b : List Stmt} {pos : Pos} {f : Rho → Res Bool} {s t : Rho → SR} (hc : DQ X T W c f) (ha : DSs X T W F0 H0 a s) (hb : DSs X T W F0 H0 b t) : DS X T W F0 H0 (.If c a b pos) (sif f s t) :=
  (ps_if hc ha hb).to fun Z σ H ⟨ρ, F, g, h⟩ => by
    refine ⟨ρ, F, g.at_, (aftS.bind (R := RBool) g h).imp fun d _ v F1 H1 _ _ q => ?_⟩
    obtain ⟨b, F2, _, n, g2, rv, q⟩ := q
    obtain rfl : v = b := rv
    cases v with
    | true => exact ⟨ρ, F2, g2, q⟩
    | false => exact ⟨ρ, F2, g2, q⟩
theorem sasg_to {f : Rho → Res D} {g : Tg} {K : PySem.W.Frag} {Z : Ends} {σ : L2.St} {H : Hp} (h : tS K T W F0 H0 (sasg f g) Z σ H) : tAsg (tE K T W f) (tGd K T g) Z σ H := by
  obtain ⟨ρ, F, gg, h⟩ := h
  refine ⟨ρ, F, gg.at_, (aftS.bind (R := Rp K) gg h).imp fun d _ v F1 H1 _ _ q => ?_⟩
  obtain ⟨b, F2, _, n, g2, rv, q⟩ := q
  cases e : g ρ b with
  | none => rw [e] at q; exact q.elim
  | some ρ' =>
    rw [e] at q
    exact ⟨ρ, F2, b, ρ', g2.at_, rv, e, fun σ' a' o' => q σ' F2 H1 ⟨a', g2.nx, o' H0 g2.ow⟩ (Sub.refl F2)⟩
theorem s_asg {tg e : Expr} {pos : Pos} {f : Rho → Res D} {g : Tg} (he : DE X T W e f) (hg : DG X T tg g) (hs : swapsWithSole [tg] e pos.line X.env = pure false := by rfl) (hw : swappedStores [tg] e X.env = pure none := by rfl)
    (h1 : (assignEach [tg] X.env).map (·.2) = [assign tg X.env] := by rfl) : DS X T W F0 H0 (.Assign [tg] e pos) (sasg f g) :=
  (ps_asg he hg hs hw h1).to fun Z σ H h => sasg_to h
end

/-! ### while -/
section
variable {X : Cx} {T : List (Addr × Str)} {W : WX} {F0 H0 : Hp}
end

/-! ### what is walked -/
/-- the walk J gives ds, while F is frozen -/
def Walks (K : PySem.W.Frag) (T : List (Addr × Str)) (F : Hp) (J : It) (ds : List D) : Prop :=
  ∀ (i : Nat) (F' H : Hp), Sub F F' → Fz F' H → (∀ d, ds[i]? = some d → J.go i H ∧ ∀ x H', J.yld i H x H' → ∃ F2, Nx T F' H F2 H' ∧ Rp K F2 x d) ∧ (ds.length ≤ i → J.stop i H)
def tI (K : PySem.W.Frag) (T : List (Addr × Str)) (W : WX) (f : Rho → Res (List D)) : TI := tG (fun K F J ds => Walks K T F J ds) K T W f
abbrev DI (X : Cx) (T : List (Addr × Str)) (W : WX) (tg iter : Expr) (f : Rho → Res (List D)) : Prop := PI X tg iter (tI X.K T W f)
theorem _root_.L2.PI.to {X : Cx} {tg e : Expr} {t u : TI} (h : PI X tg e t) (k : ∀ σ H R, u σ H R → t σ H R) : PI X tg e u := ⟨fun pins s σ H R I q => h.run pins s σ H R I (k σ H R q)⟩
theorem _root_.L2.PI.or {X : Cx} {tg e : Expr} {t u : TI} (h : PI X tg e t) (h2 : PI X tg e u) : PI X tg e (fun σ H R => t σ H R ∨ u σ H R) := ⟨fun pins s σ H R I q => q.elim (h.run pins s σ H R I) (h2.run pins s σ H R I)⟩
def loopD (g : Tg) (s : Rho → SR) : List D → Rho → SR
  | [], ρ => .nx ρ
  | d :: ds, ρ => match g ρ d with
    | none => .bad
    | some ρ1 => match s ρ1 with
      | .nx ρ' => loopD g s ds ρ'
      | .ct ρ' => loopD g s ds ρ'
      | .bk ρ' => .nx ρ'
      | r => r
def sfor (f : Rho → Res (List D)) (g : Tg) (s : Rho → SR) : Rho → SR := fun ρ => bindS (f ρ) ρ fun ds => loopD g s ds ρ
section
variable {X : Cx} {T : List (Addr × Str)} {W : WX} {F0 H0 : Hp}
/-! the walks -/
def itemsD : D → Res (List D)
  | .tup xs => .ok xs
  | .lst xs => .ok xs
  | .arr ns => .ok (ns.map .int)
  | .str x => .ok (x.cps.toList.map fun c => .str ⟨#[c]⟩)
  | _ => .bad
def its (f : Rho → Res D) : Rho → Res (List D) := fun ρ => (f ρ).bind itemsD
theorem walks_list {K : PySem.W.Frag} {F : Hp} {a : Addr} {xs : List V} {ds : List D} (h : SqL K F a xs) (r : RpAll K F xs ds) : Walks K T F (Itl K a) ds := fun i F' H sb z => by
  have hl : SqL K H a xs := (sb.trans z.sub).sl h
  refine ⟨fun d hd => ?_, fun hle => ⟨xs, hl, by rw [r.length]; exact hle⟩⟩
  obtain ⟨v, hv, rv⟩ := r.get hd
  refine ⟨⟨xs, v, hl, hv⟩, fun x H' y => ?_⟩
  obtain ⟨rfl, y⟩ := y
  have e := y xs hl
  rw [hv] at e
  cases e
  exact ⟨F', Nx.refl z, rv.mono sb⟩
theorem walks_tup {K : PySem.W.Frag} {F : Hp} {a : Addr} {xs : List V} {ds : List D} (h : SqT K F a xs) (r : RpAll K F xs ds) : Walks K T F (Itt K a) ds := fun i F' H sb z => by
  have hl : SqT K H a xs := (sb.trans z.sub).st h
  refine ⟨fun d hd => ?_, fun hle => ⟨xs, hl, by rw [r.length]; exact hle⟩⟩
  obtain ⟨v, hv, rv⟩ := r.get hd
  refine ⟨⟨xs, v, hl, hv⟩, fun x H' y => ?_⟩
  obtain ⟨rfl, y⟩ := y
  have e := y xs hl
  rw [hv] at e
  cases e
  exact ⟨F', Nx.refl z, rv.mono sb⟩
end
end DN
namespace DN
open PySem PySem.Spec PyProof.Rows L2
open LamX (Tabs ExtN)

/-! ### the walks of for and of comprehensions -/
section
variable {X : Cx} {T : List (Addr × Str)} {W : WX} {F0 H0 : Hp}
theorem walks_str {K : PySem.W.Frag} {F : Hp} {x : Str} : Walks K T F (Its x) (x.cps.toList.map fun c => D.str ⟨#[c]⟩) := fun i F' H sb z => by
  refine ⟨fun d hd => ?_, fun hle => ?_⟩
  · rw [List.getElem?_map] at hd
    cases e : x.cps.toList[i]? with
    | none => rw [e] at hd; cases hd
    | some c =>
      rw [e] at hd
      cases hd
      have hi : i < x.cps.size := by
        have := (List.getElem?_eq_some_iff.mp e).1
        simpa using this
      refine ⟨hi, fun v H' y => ?_⟩
      obtain ⟨rfl, c', hc', rfl⟩ := y
      have e2 : x.cps[i]? = some c := by simpa using e
      rw [e2] at hc'
      cases hc'
      exact ⟨F', Nx.refl z, .str _⟩
  · show x.cps.size ≤ i
    simpa using hle
theorem i_any {tg l : Expr} {f : Rho → Res D} (h : DE X T W l f) : DI X T W tg l (its f) :=
  ((pi_list h).or ((pi_tup h).or (pi_str h))).to fun σ H R ⟨ρ, F, a, h⟩ => by
    have h : aft (fun F J ds => Walks X.K T F J ds) X.K T W σ F H R ((f ρ).bind itemsD) := h
    cases e : f ρ with
    | bad => rw [e] at h; exact h.elim
    | ex n =>
      rw [e] at h
      exact .inl ⟨ρ, F, a, by rw [e]; exact h⟩
    | ok d =>
      rw [e] at h
      have h : aft (fun F J ds => Walks X.K T F J ds) X.K T W σ F H R (itemsD d) := h
      cases d with
      | lst ds =>
        refine .inl ⟨ρ, F, a, ?_⟩
        rw [e]
        intro v F' H' n r
        cases r with
        | lst h1 r1 => exact ⟨_, rfl, ⟨_, SqL.of (n.z.sub _ _ h1)⟩, h _ F' H' n (walks_list (SqL.of h1) r1)⟩
      | arr ns =>
        refine .inl ⟨ρ, F, a, ?_⟩
        rw [e]
        intro v F' H' n r
        cases r with
        | arr h1 => exact ⟨_, rfl, ⟨_, n.z.sub.sl h1⟩, h _ F' H' n (walks_list h1 (RpAll.ints ns))⟩
      | tup ds =>
        refine .inr (.inl ⟨ρ, F, a, ?_⟩)
        rw [e]
        intro v F' H' n r
        cases r with
        | tup h1 r1 => exact ⟨_, rfl, ⟨_, n.z.sub.st h1⟩, h _ F' H' n (walks_tup h1 r1)⟩
      | str x =>
        refine .inr (.inr ⟨ρ, F, a, ?_⟩)
        rw [e]
        intro v F' H' n r
        cases r
        exact ⟨x, rfl, h _ F' H' n walks_str⟩
      | _ => exact h.elim
def rngD (lo : Int) (n : Nat) : List D := (List.range n).map fun (i : Nat) => D.int (lo + (i : Int))
theorem walks_rng {K : PySem.W.Frag} {F : Hp} {lo : Int} {n : Nat} : Walks K T F (Itr lo n) (rngD lo n) := fun i F' H sb z => by
  refine ⟨fun d hd => ?_, fun hle => ?_⟩
  · unfold rngD at hd
    rw [List.getElem?_map] at hd
    cases e : (List.range n)[i]? with
    | none => rw [e] at hd; cases hd
    | some j =>
      rw [e] at hd
      cases hd
      obtain ⟨h1, h2⟩ := List.getElem?_eq_some_iff.mp e
      rw [List.getElem_range] at h2
      rw [List.length_range] at h1
      subst h2
      refine ⟨h1, fun v H' y => ?_⟩
      obtain ⟨rfl, rfl⟩ := y
      exact ⟨F', Nx.refl z, .int _⟩
  · unfold rngD at hle
    rw [List.length_map, List.length_range] at hle
    exact hle
def rng1 (f : Rho → Res (List D)) : Rho → Res (List D) := fun ρ => (f ρ).bind fun ds => match ds with
  | [.int j] => if -(2 ^ 62) ≤ j ∧ j < 2 ^ 62 then .ok (rngD 0 j.toNat) else .bad
  | _ => .bad
theorem i_rng1 {tg a : Expr} {p pos : Pos} {f : Rho → Res (List D)} (hg : Gl X "range") (hm : X.mg "range" = none) (ha : DA X T W [a] f) (hs : starEach [a] X.env = [(false, eval a X.env)] := by rfl) : DI X T W tg (.Call (.Name "range" p) [a] [] pos) (rng1 f) :=
  (pi_range1 hg hm ha hs).to fun σ H R ⟨ρ, F, a, h⟩ => by
    refine ⟨ρ, F, a, (aft.bind (R := RpAll X.K) h).imp fun d _ v F1 H1 _ _ q => ?_⟩
    obtain ⟨ds, F2, _, n, rv, q⟩ := q
    match ds, rv, q with
    | [.int j], .cons (.int _) .nil, q =>
      have q : aft (fun F J ds => Walks X.K T F J ds) X.K T W σ F2 H1 R (if -(2 ^ 62) ≤ j ∧ j < 2 ^ 62 then .ok (rngD 0 j.toNat) else .bad) := q
      split at q
      · rename_i hj
        exact ⟨j, rfl, hj.1, hj.2, q _ F2 H1 (Nx.refl n.z) walks_rng⟩
      · exact q.elim
end

/-! ### comprehensions -/
def wipeR (ρ : Rho) : List Nat → Rho
  | [] => ρ
  | v :: vs => (wipeR ρ vs).set v .u
def compD (g : Tg) (t : Rho → Res Bool) (e : Rho → Res D) (ρ : Rho) : List D → Res (List D)
  | [] => .ok []
  | d :: ds => match g ρ d with
    | none => .bad
    | some ρ1 => match t ρ1 with
      | .ok b => if b = true then (match e ρ1 with
        | .ok y => (compD g t e ρ ds).bind fun ys => .ok (y :: ys)
        | _ => .bad) else compD g t e ρ ds
      | _ => .bad
def lcD (f : Rho → Res (List D)) (i : Nat) (t : Rho → Res Bool) (e : Rho → Res D) : Rho → Res D := fun ρ => (f ρ).bind fun ds => if ds.length < sizeLine then (compD (gn i) t e (ρ.set i .u) ds).bind fun ys => .ok (.lst ys) else .bad
def yes : Rho → Res Bool := fun _ => .ok true
theorem tabs_upd {T : List (Addr × Str)} {H : Hp} {p : Addr} {xs : List V} {o : HO} (h : Tabs T H) (e : H p = some (.lst xs)) : Tabs T (upd H p o) := fun q hq => by
  obtain ⟨ps, h1, h2, h3⟩ := h q hq
  refine ⟨ps, ?_, h2, fun pos cv hc => ?_⟩
  · rw [upd_ne fun z => by rw [z, e] at h1; cases h1]; exact h1
  · obtain ⟨c, e1, e2⟩ := h3 pos cv hc
    refine ⟨c, e1, ?_⟩
    rw [upd_ne fun z => by rw [z, e] at e2; unfold LamX.CodeO at e2; cases e2]; exact e2
section
variable {X : Cx} {T : List (Addr × Str)} {W : WX} {F0 H0 : Hp}
abbrev W0 : WX := fun _ _ _ _ => False
theorem no_ex {α β : Type} {R : Hp → α → β → Prop} {K : PySem.W.Frag} {σ : L2.St} {F H : Hp} {Q : α → Hp → Prop} {r : Res β} (z : Fz F H) {b : β} (e : r = .ok b) (h : ∀ a F' H', Nx T F H F' H' → R F' a b → Q a H') : aft R K T W0 σ F H Q r := by
  rw [e]; exact h
theorem lc_to {K : PySem.W.Frag} {f : Rho → Res (List D)} {i : Nat} {t : Rho → Res Bool} {e : Rho → Res D} {σ : L2.St} {H : Hp} {Q : VK} (h : tE K T W (lcD f i t e) σ H Q) :
    tLc (tI K T W f) (gName i) (tT K T W0 t) (tE K T W0 e) [i] σ H Q := by
  obtain ⟨ρ, F, a, h⟩ := h
  refine ⟨ρ, F, a, (aft.bind (R := fun F J ds => Walks K T F J ds) h).imp fun d _ J F1 H1 _ _ q => ?_⟩
  obtain ⟨ds, F2, _, n, wk, q⟩ := q
  have q : aft (Rp K) K T W σ F2 H1 Q (if ds.length < sizeLine then (compD (gn i) t e (ρ.set i .u) ds).bind fun ys => .ok (.lst ys) else .bad) := q
  split at q
  · rename_i hlen
    cases hc : compD (gn i) t e (ρ.set i .u) ds with
    | bad => rw [hc] at q; exact q.elim
    | ex m =>
      exfalso
      have : ∀ ds : List D, compD (gn i) t e (ρ.set i .u) ds ≠ .ex m := fun ds => by
        induction ds with
        | nil => intro z; cases z
        | cons d ds ih =>
          intro z
          unfold compD at z
          simp only [gn] at z
          split at z
          · split at z
            · split at z
              · cases e2 : compD (gn i) t e (ρ.set i .u) ds with
                | ok ys => rw [e2] at z; cases z
                | ex m' =>
                  rw [e2] at z
                  cases z
                  exact ih e2
                | bad => rw [e2] at z; cases z
              · cases z
            · exact ih z
          · cases z
      exact this ds hc
    | ok ys =>
      rw [hc] at q
      have a2 := a.nx n
      intro p hp
      -- behind k turns
      refine ⟨fun k m H => m = ds.length - k ∧ k ≤ ds.length ∧ ∃ F' acc dacc rest, Nx T F2 H1 F' H ∧ F' p = none ∧ H p = some (.lst acc) ∧ RpAll K F' acc dacc ∧ acc.length ≤ k ∧ compD (gn i) t e (ρ.set i .u) (ds.drop k) = .ok rest ∧ dacc ++ rest = ys,
        ⟨ds.length, by omega, by omega, F2, [], [], ys, Nx.lay n.z hp, ?_, upd_same, .nil, by simp, hc, rfl⟩, ?_⟩
      · cases z : F2 p with
        | none => rfl
        | some o =>
          have := n.z.sub _ _ z
          rw [hp] at this; cases this
      rintro k m H ⟨rfl, hk, F', acc, dacc, rest, nx, hFp, hHp, ra, la, hr, hy⟩
      obtain ⟨wg, ws⟩ := wk k F' H nx.f nx.z
      by_cases hlt : k < ds.length
      · obtain ⟨go, yl⟩ := wg _ (List.getElem?_eq_getElem hlt)
        rw [List.drop_eq_getElem_cons hlt] at hr
        unfold compD at hr
        simp only [gn] at hr
        refine .inr ⟨go, fun H => ∃ F' acc dacc rest, Nx T F2 H1 F' H ∧ F' p = none ∧ H p = some (.lst acc) ∧ RpAll K F' acc dacc ∧ acc.length ≤ k + 1 ∧ compD (gn i) t e (ρ.set i .u) (ds.drop (k + 1)) = .ok rest ∧ dacc ++ rest = ys, fun H' w => ⟨ds.length - (k + 1), by omega, rfl, by omega, w⟩, fun x H' y => ?_⟩
        obtain ⟨F3, n3, rx⟩ := yl x H' y
        have hp3 : H' p = some (.lst acc) := n3.keep hHp ntL
        have hf3 : F3 p = none := n3.out hHp ntL hFp
        have a3 : At K T F3 H' (σ.set i none) (ρ.set i .u) := ⟨n3.z, (nx.trans n3).tab a2.t, (a2.r.mono (nx.trans n3)).wipe1⟩
        have a4 : At K T F3 H' ((σ.set i none).set i (some x)) ((ρ.set i .u).set i (.z ds[k])) := ⟨a3.z, a3.t, a3.r.set rx⟩
        show wipe ((σ.set i none).set i (some x)) [i] = wipe σ [i] ∧ _
        refine ⟨?_, ?_⟩
        · show ((σ.set i none).set i (some x)).set i none = σ.set i none
          rw [List.set_set, List.set_set]
        · cases ht : t ((ρ.set i .u).set i (.z ds[k])) with
          | bad => rw [ht] at hr; cases hr
          | ex m => rw [ht] at hr; cases hr
          | ok b =>
            rw [ht] at hr
            refine ⟨_, F3, a4, no_ex a4.z ht fun b' F4 H4 n4 rb => ?_⟩
            obtain rfl : b' = b := rb
            cases b' with
            | false =>
              show ∃ F' acc dacc rest, _
              have hr : compD (gn i) t e (ρ.set i .u) (ds.drop (k + 1)) = .ok rest := hr
              exact ⟨F4, acc, dacc, rest, (nx.trans n3).trans n4, n4.out hp3 ntL hf3, n4.keep hp3 ntL, ra.mono (n3.trans n4).f, by omega, hr, hy⟩
            | true =>
              have hr : (match e ((ρ.set i .u).set i (.z ds[k])) with
                | .ok y => (compD (gn i) t e (ρ.set i .u) (ds.drop (k + 1))).bind fun ys => .ok (y :: ys)
                | _ => .bad) = .ok rest := hr
              cases he : e ((ρ.set i .u).set i (.z ds[k])) with
              | bad => rw [he] at hr; cases hr
              | ex m => rw [he] at hr; cases hr
              | ok y =>
                rw [he] at hr
                have hr : (compD (gn i) t e (ρ.set i .u) (ds.drop (k + 1))).bind (fun ys => .ok (y :: ys)) = .ok rest := hr
                cases hr2 : compD (gn i) t e (ρ.set i .u) (ds.drop (k + 1)) with
                | bad => rw [hr2] at hr; cases hr
                | ex m => rw [hr2] at hr; cases hr
                | ok rest' =>
                  rw [hr2] at hr
                  cases hr
                  show tE K T W0 e _ H4 _
                  refine ⟨_, F4, a4.nx n4, no_ex n4.z he fun v F5 H5 n5 rv => ?_⟩
                  have hp5 : H5 p = some (.lst acc) := (n4.trans n5).keep hp3 ntL
                  have hf5 : F5 p = none := (n4.trans n5).out hp3 ntL hf3
                  have n6 := (nx.trans n3).trans (n4.trans n5)
                  refine ⟨acc, hp5, by omega, F5, acc ++ [v], dacc ++ [y], rest', ⟨n6.f, ⟨fun b o eb => ?_, n6.z.nt⟩, fun b o eb no => ?_, n6.new, fun tb => tabs_upd (n6.tab tb) hp5⟩, hf5, upd_same, ?_, by rw [List.length_append]; simp; omega, rfl, by rw [List.append_assoc]; exact hy⟩
                  · rw [upd_ne fun z => by rw [z, hf5] at eb; cases eb]
                    exact n6.z.sub _ _ eb
                  · rw [upd_ne fun z => by rw [z, hp] at eb; cases eb]
                    exact n6.h _ _ eb no
                  · exact (ra.mono ((n3.trans n4).trans n5).f).append (.cons rv .nil)
      · have ek : k = ds.length := by omega
        subst ek
        refine .inl ⟨ws (Nat.le_refl _), ?_⟩
        rw [List.drop_length] at hr
        cases hr
        rw [List.append_nil] at hy
        subst hy
        refine q (.ref p) (upd F' p (.lst acc)) H ⟨fun b o eb => ?_, ⟨fun b o eb => ?_, fun b ps eb => ?_⟩, nx.h, fun b o eb => ?_, nx.tab⟩ (.lst upd_same (ra.mono fun b o eb => ?_))
        · rw [upd_ne fun z => by rw [z] at eb; rw [nx.f _ _ eb] at hFp; cases hFp]
          exact nx.f _ _ eb
        · by_cases hb : b = p
          · subst hb; rw [upd_same] at eb; rw [← eb]; exact hHp
          · rw [upd_ne hb] at eb; exact nx.z.sub _ _ eb
        · by_cases hb : b = p
          · subst hb; rw [upd_same] at eb; cases eb
          · rw [upd_ne hb] at eb; exact nx.z.nt _ _ eb
        · by_cases hb : b = p
          · subst hb
            exact .inr fun o' e' => by rw [hp] at e'; cases e'
          · rw [upd_ne hb] at eb; exact nx.new _ _ eb
        · rw [upd_ne fun z => by rw [z, hFp] at eb; cases eb]; exact eb
  · exact q.elim
theorem ts_nil : PTs X [] (tT X.K T W yes) := ⟨fun pins s σ H Q I ⟨ρ, F, a, h⟩ => pts_nil.run pins s σ H Q I (h true F H (Nx.refl a.z) rfl)⟩
theorem ts_one {c : Expr} {f : Rho → Res Bool} (h : DQ X T W c f) : PTs X [c] (tT X.K T W f) := pts_one h
theorem e_lc {elt tg iter : Expr} {ifs : List Expr} {scope : Scope} {x : Str} {i : Nat} {pos : Pos} {f : Rho → Res (List D)} {t : Rho → Res Bool} {e : Rho → Res D} (hc : X.calm = true) (hN : X.N.Nodup) (hi : DI X T W tg iter f) (ok : BlkOk X.N X.env.scope scope [(x, i)])
    (hg : ∀ (s : Shared) (H : Hp) (C : Addr) (cl : List (Str × Addr)) (fp : List Addr), PG (X.blk s H scope (compEnvC scope cl C X.env) fp) tg (gName i))
    (ht : ∀ (s : Shared) (H : Hp) (C : Addr) (cl : List (Str × Addr)) (fp : List Addr), PTs (X.blk s H scope (compEnvC scope cl C X.env) fp) ifs (tT X.K T W0 t))
    (he : ∀ (s : Shared) (H : Hp) (C : Addr) (cl : List (Str × Addr)) (fp : List Addr), DE (X.blk s H scope (compEnvC scope cl C X.env) fp) T W0 elt e) (hs : ∀ x, foldedSetIterable iter X.env x = pure x := by intro _; rfl) :
    DE X T W (.ListComp elt [⟨tg, iter, ifs, 0⟩] scope pos) (lcD f i t e) :=
  (pe_lc (own := [(x, i)]) hc hN hi ok hg ht he hs).to fun _ _ _ h => lc_to h
end

/-! ### defs -/
def startR (n : Nat) (ds : List D) : Rho := ds.map En.z ++ List.replicate (n - ds.length) .u
def runB (n : Nat) (s : Rho → SR) (ds : List D) : Res D := match s (startR n ds) with
  | .nx _ => .ok .non
  | .rt d => .ok d
  | .ex m _ => .ex m
  | _ => .bad
abbrev WofE (E : XK) : WX := fun cls d _ H => E cls d H
def spD (K : PySem.W.Frag) (T : List (Addr × Str)) (n : Nat) (den : List D → Res D) : Sp := fun vs H Q E => ∃ F ds, Fz F H ∧ Tabs T H ∧ RpAll K F vs ds ∧ ds.length = n ∧ aft (Rp K) K T (WofE E) [] F H Q (den ds)
def callD (n : Nat) (den : List D → Res D) (f : Rho → Res (List D)) : Rho → Res D := fun ρ => (f ρ).bind fun ds => if ds.length = n then den ds else .bad
theorem Rl.start {K : PySem.W.Frag} {F H : Hp} {vs : List V} {ds : List D} {N : List Str} (r : RpAll K F vs ds) : Rl K F H (L2.start N vs) (startR N.length ds) := by
  have hl := r.length
  have key : ∀ (i : Nat) (en : En), (startR N.length ds)[i]? = some en → (∃ d, ds[i]? = some d ∧ en = .z d) ∨ en = .u := fun i en h => by
    unfold startR at h
    rw [List.getElem?_append] at h
    split at h
    · rw [List.getElem?_map] at h
      cases e : ds[i]? with
      | none => rw [e] at h; cases h
      | some d => rw [e] at h; cases h; exact .inl ⟨d, rfl, rfl⟩
    · rw [List.getElem?_replicate] at h
      split at h
      · cases h; exact .inr rfl
      · cases h
  refine ⟨?_, fun i d h => ?_, fun i d h => ?_, fun i j d e p q _ h => ?_⟩
  · unfold L2.start startR
    simp [hl]
  · rcases key i _ h with ⟨d', e, z⟩ | z
    · cases z
      obtain ⟨v, hv, rv⟩ := r.get e
      refine ⟨v, ?_, rv⟩
      unfold L2.start
      rw [List.getElem?_append_left (by rw [List.length_map]; exact (List.getElem?_eq_some_iff.mp hv).1), List.getElem?_map, hv]
      rfl
    · cases z
  · rcases key i _ h with ⟨d', e, z⟩ | z <;> cases z
  · rcases key i _ h with ⟨d', e, z⟩ | z <;> cases z
structure OkD (P : Program) (w : World) (K : PySem.W.Frag) (mg : Str → Option Value) (base : Heap) (T : List (Addr × Str)) (k : Nat) (x : Str) (n : Nat) (den : List D → Res D) : Prop where
  ex : ∃ fd ps, FnOk P w K mg base (L2.CX P w) k (He.ga K x) fd ps (spD K T n den) ∧ Binds K fd ps []
  kp : PySem.W.keepIn K (.ref (He.ga K x)) = true
  mg : mg x = some (.ref (He.ga K x))
theorem fn_ok {P : Program} {w : World} {K : PySem.W.Frag} {mg : Str → Option Value} {base : Heap} {T : List (Addr × Str)} {k : Nat} {x qual : Str} {params : Arguments} {body : List Stmt} {scope : Scope} {kws : List (Str × V)} {f : Addr} {fd : FuncData} {N ps : List Str} {n : Nat} {s : Rho → SR}
    (Fd : FunD K x qual params body scope [] kws f fd) (S : FnScope N ps scope) (hn : ps.length = n)
    (hb : ∀ (cdv : Value) (A : Around) (outer : List Env) (s0 : Shared) (H0 : Hp) (E : XK) (F0 : Hp), Room k (A.deeper (envOfC qual scope s0.heap.objs.size f cdv)) → DSs (cxOf (L2.CX P w) P w K mg base N qual scope f cdv A outer s0 H0 E) T (WofE E) F0 H0 body s) :
    FnOk P w K mg base (L2.CX P w) (k + 1) f fd ps (spD K T n (runB N.length s)) := by
  refine Fd.ok S (fun vs H Q E h => ?_) fun cdv A outer s0 H vs Q E hr h => ?_
  · obtain ⟨F, ds, _, _, r, hl, _⟩ := h
    rw [r.length, hl, hn]
  · obtain ⟨F, ds, z, tb, r, hl, h⟩ := h
    refine ⟨_, hb cdv A outer s0 H E F hr, startR N.length ds, F, ⟨⟨z, tb, Rl.start r⟩, Nx.refl z, fun i d p h1 => ?_⟩, ?_⟩
    · exfalso
      have o := (Rl.start (K := K) (F := F) (H := H) (N := N) r)
      unfold startR at h1
      rw [List.getElem?_append] at h1
      split at h1
      · rw [List.getElem?_map] at h1
        cases e : ds[i]? with
        | none => rw [e] at h1; cases h1
        | some d => rw [e] at h1; cases h1
      · rw [List.getElem?_replicate] at h1
        split at h1 <;> cases h1
    · unfold runB at h
      cases e : s (startR N.length ds) with
      | nx ρ => rw [e] at h; exact fun σ F' H' g _ => h .non F' H' g.nx .non
      | rt d => rw [e] at h; exact fun v F' H' nx rv => h v F' H' nx rv
      | ex m ρ => rw [e] at h; exact fun σ F' H' g _ => h F' H' g.nx
      | bk ρ => rw [e] at h; exact h.elim
      | ct ρ => rw [e] at h; exact h.elim
      | bad => rw [e] at h; exact h.elim
section
variable {X : Cx} {T : List (Addr × Str)} {W : WX} {F0 H0 : Hp}
theorem call_to {K : PySem.W.Frag} {n : Nat} {den : List D → Res D} {f : Rho → Res (List D)} {σ : L2.St} {H : Hp} {Q : VK} (h : tE K T W (callD n den f) σ H Q) : tCallS (spD K T n den) (WE W) (tA K T W f) σ H Q := by
  obtain ⟨ρ, F, a, h⟩ := h
  refine ⟨ρ, F, a, (aft.bind (R := RpAll K) h).imp fun d _ v F1 H1 _ _ q => ?_⟩
  obtain ⟨b, F2, _, nx, rv, q⟩ := q
  have q : aft (Rp K) K T W σ F2 H1 Q (if b.length = n then den b else .bad) := q
  split at q
  · rename_i hl
    refine ⟨F2, b, nx.z, nx.tab a.t, rv, hl, ?_⟩
    cases e : den b with
    | ok d => rw [e] at q; exact q
    | ex m => rw [e] at q; exact q
    | bad => rw [e] at q; exact q.elim
  · exact q.elim
theorem e_call {j k n : Nat} {x : Str} {den : List D → Res D} {e : Expr} {es : List Expr} {p pos : Pos} {f : Rho → Res (List D)} (O : OkD X.prog X.w X.K X.mg X.base T j x n den) (hr : Room k X.A) (tk : Takes X W) (hg : Gl X x) (ha : DA X T W (e :: es) f) (hj : j ≤ k := by decide)
    (hdb : (x == ("__debug__" : Str)) = false := by decide) (he : starEach (e :: es) X.env = (false, eval e X.env) :: starEach es X.env := by rfl) (hpl : (backTo pos (starEach es X.env)).any (·.1) = false := by rfl) :
    DE X T W (.Call (.Name x p) (e :: es) [] pos) (callD n den f) := by
  obtain ⟨fd, ps, G, b⟩ := O.ex
  exact (pe_callS (E := WE W) G (hr.mono hj) hg O.mg O.kp b (fun σ => passAt tk σ) ha hdb he hpl).to fun _ _ _ h => call_to h
/-- what is known of an own error class -/
structure ExcN (K : PySem.W.Frag) (mg : Str → Option Value) (x : Str) : Prop where
  e : PySem.W.excIn K (He.ga K x) He.veBase "ValueError.__new__" = true
  k : PySem.W.keepIn K (.ref (He.ga K x)) = true
  b : PySem.W.subIn K (.ref (He.ga K x)) (.type "BaseException") = some true
  t : PySem.W.typeIn K (.ref (He.ga K x)) = some (.type "type")
  g : mg x = some (.ref (He.ga K x))
def sraise (x : Str) : Rho → SR := fun ρ => .ex x ρ
end
end DN
namespace DN
open PySem PySem.Spec PyProof.Rows L2
open LamX (Tabs ExtN)

/-! ### the module's names -/
section
variable {X : Cx} {T : List (Addr × Str)} {W : WX}
theorem e_gint {x : Str} {i : Int} {pos : Pos} (h : ∃ t, X.mg x = some (.int i t)) (hg : Gl X x) (hd : (x == ("__debug__" : Str)) = false := by decide) : DE X T W (.Name x pos) (con (.int i)) := by
  obtain ⟨t, h⟩ := h
  exact e_c (pe_glob (v := .int i) hg h ⟨t, rfl⟩ hd) fun _ => .int i
theorem e_gstr {x z : Str} {pos : Pos} (h : ∃ t, X.mg x = some (.str z t)) (hg : Gl X x) (hd : (x == ("__debug__" : Str)) = false := by decide) : DE X T W (.Name x pos) (con (.str z)) := by
  obtain ⟨t, h⟩ := h
  exact e_c (pe_glob (v := .str z) hg h ⟨t, rfl⟩ hd) fun _ => .str z
theorem RpAll.strs {K : PySem.W.Frag} {F : Hp} : ∀ (ns : List Str), RpAll K F (ns.map V.str) (ns.map D.str)
  | [] => .nil
  | n :: ns => .cons (.str n) (RpAll.strs ns)
theorem e_gtup {x : Str} {zs : List Str} {pos : Pos} (h : X.mg x = some (.ref (He.ga X.K x))) (ht : ∀ H, SqT X.K H (He.ga X.K x) (zs.map V.str)) (hg : Gl X x) (hd : (x == ("__debug__" : Str)) = false := by decide) : DE X T W (.Name x pos) (con (.tup (zs.map D.str))) :=
  e_c (pe_glob (v := .ref (He.ga X.K x)) hg h rfl hd) fun F => .tup (ht F) (RpAll.strs zs)
theorem e_ty {x : Str} {n : String} {pos : Pos} (hm : X.mg x = none) (hv : bootBuiltins x = some (.type n)) (hg : Gl X x) (hn : x ≠ "__name__" := by decide) (hd : (x == ("__debug__" : Str)) = false := by decide) : DE X T W (.Name x pos) (con (.ty n)) :=
  e_c (pe_bltn (v := .ty n) hg hm hv rfl hn hd) fun F => .ty n
end
theorem bt_len : bootBuiltins "len" = some (.builtin "len") := by decide +kernel
theorem bt_isinstance : bootBuiltins "isinstance" = some (.builtin "isinstance") := by decide +kernel
theorem bt_all : bootBuiltins "all" = some (.builtin "all") := by decide +kernel
theorem bt_int : bootBuiltins "int" = some (.type "int") := by decide +kernel
theorem bt_str : bootBuiltins "str" = some (.type "str") := by decide +kernel
theorem bt_bool : bootBuiltins "bool" = some (.type "bool") := by decide +kernel
theorem bt_tuple : bootBuiltins "tuple" = some (.type "tuple") := by decide +kernel
theorem bt_list : bootBuiltins "list" = some (.type "list") := by decide +kernel

/-! ### the end -/
theorem start_arr {K : PySem.W.Frag} {H : Hp} {a : Addr} {ns : List Int} (h : SqL K H a (ns.map V.int)) : ∃ F, Fz F H ∧ Rp K F (.ref a) (.arr ns) := by
  rcases h with (h | ⟨o, h⟩) | h
  · refine ⟨fun b => if b = a then some (.lst (ns.map V.int)) else none, ⟨fun b o e => ?_, fun b ps e => ?_⟩, .arr (.inl (.inl (if_pos rfl)))⟩
    · by_cases hb : b = a
      · rw [if_pos hb] at e; rw [hb, h]; exact e
      · rw [if_neg hb] at e; cases e
    · by_cases hb : b = a
      · rw [if_pos hb] at e; cases e
      · rw [if_neg hb] at e; cases e
  · refine ⟨fun b => if b = a then some (.frz o (.lst (ns.map V.int))) else none, ⟨fun b o e => ?_, fun b ps e => ?_⟩, .arr (.inl (.inr ⟨o, if_pos rfl⟩))⟩
    · by_cases hb : b = a
      · rw [if_pos hb] at e; rw [hb, h]; exact e
      · rw [if_neg hb] at e; cases e
    · by_cases hb : b = a
      · rw [if_pos hb] at e; cases e
      · rw [if_neg hb] at e; cases e
  · exact ⟨fun _ => none, ⟨(fun b o e => nomatch e), (fun b ps e => nomatch e)⟩, .arr (.inr h)⟩
theorem law_sp {K : PySem.W.Frag} {T : List (Addr × Str)} {H : Hp} {a : Addr} {ns : List Int} {den : List D → Res D} (hT : Tabs T H) (h : SqL K H a (ns.map V.int)) (hd : den [.arr ns] = .ok (.bl true)) : spD K T 1 den [.ref a] H (fun v _ => v = .bl true) fun _ _ _ => False := by
  obtain ⟨F, z, r⟩ := start_arr h
  refine ⟨F, [.arr ns], z, hT, .cons r .nil, rfl, ?_⟩
  rw [hd]
  intro v F' H' n rv
  cases rv
  rfl
theorem cx_false {P : Program} {w : World} {l : List Env} {H : Hp} {s : Shared} {e : Value} {s' : Shared} (h : L2.CX P w l H s (fun _ _ _ => False) e s') : False := by
  obtain ⟨_, _, _, _, _, _, _, _, _, _, _, _, z⟩ := h
  exact z.elim
theorem lawAt0 {l : PySem.W.OpenLaw} {w : World} {K : PySem.W.Frag} {k n : Nat} {x : Str} {mg : Str → Option Value} {fa : Addr} {h : Heap} {fd : FuncData} {den : List D → Res D} (hb : ∀ (s : Shared) (u : Value), BindsTo s fd ⟨[u], []⟩ [(x, u)])
    (hd : ∀ ns : List Int, ns.length ≤ n → (∀ z ∈ ns, Builtin.Int.intBits z ≤ 1048576) → den [.arr ns] = .ok (.bl true))
    (hF : ∀ base : Heap, K.In base → base.Ns mainGlobals mg → FnOk l.prog w K mg base (L2.CX l.prog w) k fa fd [x] (spD K [] 1 den)) : LamX.LawAtS l w K (L2.CX l.prog w) k n x mg fa h :=
  ⟨fd, [], spD K [] 1 den, fun p hp => by (cases hp), fun p hp => by (cases hp), fun p hp => by (cases hp), hb, fun H a ns hl hz _ hS => law_sp (fun p hp => by cases hp) hS (hd ns hl hz), fun base h1 h2 _ => hF base h1 h2⟩
end DN
namespace HT
open PySem PyProof.Rows
section
variable {prog : Program} {w : World} {A : Around} {E : Value → Shared → Prop} {s : Shared}
end
end HT
namespace DN
open PySem PySem.Spec PyProof.Rows L2
open LamX (Tabs ExtN)
section
variable {X : Cx}
end
theorem _root_.L2.PE.or {X : Cx} {e : Expr} {t u : TE} (h : PE X e t) (h2 : PE X e u) : PE X e (fun σ H Q => t σ H Q ∨ u σ H Q) := ⟨fun pins s σ H Q I q => q.elim (h.run pins s σ H Q I) (h2.run pins s σ H Q I)⟩
section
variable {X : Cx} {T : List (Addr × Str)} {W : WX}
end
end DN
namespace DN
open PySem PySem.Spec PyProof.Rows L2

/-! ### evaluating functions of data -/
def app2 (G : D → D → Option D) : Res D → Res D → Res D
  | .ok a, .ok b => ofO (G a b)
  | .ok _, .ex n => .ex n
  | .ok _, .bad => .bad
  | .ex n, _ => .ex n
  | .bad, _ => .bad
def app1 (G : D → Option D) (r : Res D) : Res D := r.bind fun a => ofO (G a)
def appL (G : List D → Option D) (r : Res (List D)) : Res D := r.bind fun a => ofO (G a)
def consR : Res D → Res (List D) → Res (List D)
  | .ok a, .ok b => .ok (a :: b)
  | .ok _, .ex n => .ex n
  | .ok _, .bad => .bad
  | .ex n, _ => .ex n
  | .bad, _ => .bad
def callR (n : Nat) (den : List D → Res D) (r : Res (List D)) : Res D := r.bind fun ds => if ds.length = n then den ds else .bad
def tstR (r : Res D) : Res Bool := r.bind ans
def seqR (r : SR) (t : Rho → SR) : SR := match r with
  | .nx ρ => t ρ
  | r => r
def retR (r : Res D) (ρ : Rho) : SR := bindS r ρ .rt
def asgR (r : Res D) (ρ : Rho) (g : Tg) : SR := bindS r ρ fun d => match g ρ d with
  | some ρ' => .nx ρ'
  | none => .bad
def ifR (r : Res Bool) (s t : Rho → SR) (ρ : Rho) : SR := bindS r ρ fun b => if b = true then s ρ else t ρ
def finR : SR → Res D
  | .nx _ => .ok .non
  | .rt d => .ok d
  | .ex m _ => .ex m
  | _ => .bad
def andR (r : Res Bool) (g : Rho → Res Bool) (ρ : Rho) : Res Bool := r.bind fun b => if b = true then g ρ else .ok false
def orR (r : Res Bool) (g : Rho → Res Bool) (ρ : Rho) : Res Bool := r.bind fun b => if b = true then .ok true else g ρ
def notR (r : Res Bool) : Res Bool := r.bind fun b => .ok (!b)
def andER (r : Res D) (g : Rho → Res D) (ρ : Rho) : Res D := r.bind fun d => (ans d).bind fun b => if b = true then g ρ else .ok (.bl false)
def orER (r : Res D) (g : Rho → Res D) (ρ : Rho) : Res D := r.bind fun d => (ans d).bind fun b => if b = true then .ok (.bl true) else g ρ
def notER (r : Res D) : Res D := r.bind fun d => (ans d).bind fun b => .ok (.bl (!b))
def mkTR (r : Res (List D)) : Res D := r.bind fun ds => if ds.length ≤ sizeLine then .ok (.tup ds) else .bad
def mkLR (r : Res (List D)) : Res D := r.bind fun ds => if ds.length ≤ sizeLine then .ok (.lst ds) else .bad
def slcR (r : Res D) (lo hi : Res (Option Int)) : Res D := r.bind fun d => lo.bind fun lo => hi.bind fun hi => ofO (slD d lo hi)
def psmR (r : Res D) : Res (Option Int) := r.bind intO
def forR (r : Res (List D)) (g : Tg) (s : Rho → SR) (ρ : Rho) : SR := bindS r ρ fun ds => loopD g s ds ρ
def chnR (G G' : D → D → Option D) (a b c : Res D) : Res D := a.bind fun d => b.bind fun e => (ofO (G d e)).bind fun z => (ans z).bind fun k => if k = true then c.bind fun c => ofO (G' e c) else .ok (.bl false)
theorem runB_eq {n : Nat} {g : Rho → SR} {ds : List D} {ρ : Rho} (h : startR n ds = ρ) : runB n g ds = finR (g ρ) := by
  subst h
  unfold runB finR
  cases g (startR n ds) <;> rfl
section
variable {ρ : Rho}
theorem bin_def {G f g} : bop G f g ρ = app2 G (f ρ) (g ρ) := by
  unfold bop app2
  cases f ρ <;> cases g ρ <;> rfl
theorem una_def {G f} : una G f ρ = app1 G (f ρ) := rfl
theorem cal_def {G f} : cal G f ρ = appL G (f ρ) := rfl
theorem acons_def {f g} : acons f g ρ = consR (f ρ) (g ρ) := by
  unfold acons consR
  cases f ρ <;> cases g ρ <;> rfl
theorem anil_def : anil ρ = .ok [] := rfl
theorem con_def {d} : con d ρ = .ok d := rfl
theorem callD_def {n den f} : callD n den f ρ = callR n den (f ρ) := rfl
theorem tst_def {f} : tst f ρ = tstR (f ρ) := rfl
theorem sseq_def {s t} : sseq s t ρ = seqR (s ρ) t := by
  unfold sseq seqR
  cases s ρ <;> rfl
theorem sret_def {f} : sret f ρ = retR (f ρ) ρ := rfl
theorem sasg_def {f g} : sasg f g ρ = asgR (f ρ) ρ g := rfl
theorem sif_def {c s t} : sif c s t ρ = ifR (c ρ) s t ρ := rfl
theorem sskip_def : sskip ρ = .nx ρ := rfl
theorem sraise_def {x} : sraise x ρ = .ex x ρ := rfl
theorem andQ_def {f g} : andQ f g ρ = andR (f ρ) g ρ := rfl
theorem orQ_def {f g} : orQ f g ρ = orR (f ρ) g ρ := rfl
theorem notQ_def {f} : notQ f ρ = notR (f ρ) := rfl
theorem andE_def {f g} : andE f g ρ = andER (f ρ) g ρ := rfl
theorem orE_def {f g} : orE f g ρ = orER (f ρ) g ρ := rfl
theorem notE_def {f} : notE f ρ = notER (f ρ) := rfl
theorem mkT_def {f} : mkT f ρ = mkTR (f ρ) := rfl
theorem mkL_def {f} : mkL f ρ = mkLR (f ρ) := rfl
theorem slc_def {f g h} : slc f g h ρ = slcR (f ρ) (g ρ) (h ρ) := rfl
theorem psm_def {f} : psm f ρ = psmR (f ρ) := rfl
theorem pno_def : pno ρ = .ok none := rfl
theorem sfor_def {f g s} : sfor f g s ρ = forR (f ρ) g s ρ := rfl
theorem chn_def {G G' f g h} : chn G G' f g h ρ = chnR G G' (f ρ) (g ρ) (h ρ) := rfl
theorem var_zero {d r} : var 0 (.z d :: r) = .ok d := rfl
theorem var_succ {n x r} : var (n + 1) (x :: r) = var n r := rfl
theorem app2_ok {G a b} : app2 G (.ok a) (.ok b) = ofO (G a b) := rfl
theorem app1_ok {G a} : app1 G (.ok a) = ofO (G a) := rfl
theorem appL_ok {G a} : appL G (.ok a) = ofO (G a) := rfl
theorem consR_ok {a b} : consR (.ok a) (.ok b) = .ok (a :: b) := rfl
theorem ofO_some {α} {a : α} : ofO (some a) = .ok a := rfl
theorem call0 {den} : callR 0 den (.ok []) = den [] := rfl
theorem call1 {den a} : callR 1 den (.ok [a]) = den [a] := rfl
theorem call2 {den a b} : callR 2 den (.ok [a, b]) = den [a, b] := rfl
theorem call3 {den a b c} : callR 3 den (.ok [a, b, c]) = den [a, b, c] := rfl
theorem call4 {den a b c d} : callR 4 den (.ok [a, b, c, d]) = den [a, b, c, d] := rfl
theorem call5 {den a b c d e} : callR 5 den (.ok [a, b, c, d, e]) = den [a, b, c, d, e] := rfl
theorem tstR_ok {b} : tstR (.ok (.bl b)) = .ok b := rfl
theorem seqR_nx {t} : seqR (.nx ρ) t = t ρ := rfl
theorem seqR_rt {d t} : seqR (.rt d) t = .rt d := rfl
theorem seqR_ex {n t} : seqR (.ex n ρ) t = .ex n ρ := rfl
theorem retR_ok {d} : retR (.ok d) ρ = .rt d := rfl
theorem retR_ex {n} : retR (.ex n) ρ = .ex n ρ := rfl
theorem asgR_n {d i} : asgR (.ok d) ρ (gn i) = .nx (ρ.set i (.z d)) := rfl
theorem asgR_ex {n g} : asgR (.ex n) ρ g = .ex n ρ := rfl
theorem asgR_2 {a b i j} : asgR (.ok (.tup [a, b])) ρ (gt 2 (gsc (gn i) (gsc (gn j) gsn))) = .nx ((ρ.set i (.z a)).set j (.z b)) := rfl
theorem asgR_2L {a b i j} : asgR (.ok (.lst [a, b])) ρ (gt 2 (gsc (gn i) (gsc (gn j) gsn))) = .nx ((ρ.set i (.z a)).set j (.z b)) := rfl
theorem asgR_3 {a b c i j k} : asgR (.ok (.tup [a, b, c])) ρ (gt 3 (gsc (gn i) (gsc (gn j) (gsc (gn k) gsn)))) = .nx (((ρ.set i (.z a)).set j (.z b)).set k (.z c)) := rfl
theorem ifR_t {s t} : ifR (.ok true) s t ρ = s ρ := rfl
theorem ifR_f {s t} : ifR (.ok false) s t ρ = t ρ := rfl
theorem finR_rt {d} : finR (.rt d) = .ok d := rfl
theorem finR_nx : finR (.nx ρ) = .ok .non := rfl
theorem finR_ex {n} : finR (.ex n ρ) = .ex n := rfl
theorem andR_t {g} : andR (.ok true) g ρ = g ρ := rfl
theorem andR_f {g} : andR (.ok false) g ρ = .ok false := rfl
theorem orR_t {g} : orR (.ok true) g ρ = .ok true := rfl
theorem orR_f {g} : orR (.ok false) g ρ = g ρ := rfl
theorem notR_ok {b} : notR (.ok b) = .ok (!b) := rfl
theorem andER_t {g} : andER (.ok (.bl true)) g ρ = g ρ := rfl
theorem andER_f {g} : andER (.ok (.bl false)) g ρ = .ok (.bl false) := rfl
theorem orER_t {g} : orER (.ok (.bl true)) g ρ = .ok (.bl true) := rfl
theorem orER_f {g} : orER (.ok (.bl false)) g ρ = g ρ := rfl
theorem notER_ok {b} : notER (.ok (.bl b)) = .ok (.bl (!b)) := rfl
theorem psmR_ok {i} : psmR (.ok (.int i)) = .ok (some i) := rfl
theorem slcR_ok {d lo hi} : slcR (.ok d) (.ok lo) (.ok hi) = ofO (slD d lo hi) := rfl
theorem forR_ok {ds g s} : forR (.ok ds) g s ρ = loopD g s ds ρ := rfl
theorem mkTR_ok {ds : List D} (h : ds.length ≤ 1000000) : mkTR (.ok ds) = .ok (.tup ds) := by
  show (if ds.length ≤ sizeLine then Res.ok (D.tup ds) else .bad) = _
  rw [if_pos (by rw [sizeLine_eq]; omega)]
theorem mkLR_ok {ds : List D} (h : ds.length ≤ 1000000) : mkLR (.ok ds) = .ok (.lst ds) := by
  show (if ds.length ≤ sizeLine then Res.ok (D.lst ds) else .bad) = _
  rw [if_pos (by rw [sizeLine_eq]; omega)]
theorem chn_le {i j k} : chnR leD leD (.ok (.int i)) (.ok (.int j)) (.ok (.int k)) = .ok (.bl (decide (i ≤ j) && decide (j ≤ k))) := by
  show (if decide (i ≤ j) = true then Res.ok (D.bl (decide (j ≤ k))) else .ok (.bl false)) = _
  cases decide (i ≤ j) <;> rfl
theorem chn_lt {i j k} : chnR leD ltD (.ok (.int i)) (.ok (.int j)) (.ok (.int k)) = .ok (.bl (decide (i ≤ j) && decide (j < k))) := by
  show (if decide (i ≤ j) = true then Res.ok (D.bl (decide (j < k))) else .ok (.bl false)) = _
  cases decide (i ≤ j) <;> rfl
/-! the operators on what they are for -/
theorem add_ii {i j} : addD (.int i) (.int j) = some (.int (i + j)) := rfl
theorem sub_ii {i j} : subD (.int i) (.int j) = some (.int (i - j)) := rfl
theorem neg_i {i} : negD (.int i) = some (.int (-i)) := rfl
theorem lt_ii {i j} : ltD (.int i) (.int j) = some (.bl (decide (i < j))) := rfl
theorem le_ii {i j} : leD (.int i) (.int j) = some (.bl (decide (i ≤ j))) := rfl
theorem gt_ii {i j} : gtD (.int i) (.int j) = some (.bl (decide (j < i))) := rfl
theorem ge_ii {i j} : geD (.int i) (.int j) = some (.bl (decide (j ≤ i))) := rfl
theorem eq_ii {i j} : eqD (.int i) (.int j) = some (.bl (i == j)) := by simp [eqD, eqOk, flatD, eqd]
theorem ne_ii {i j} : neD (.int i) (.int j) = some (.bl (!(i == j))) := by simp [neD, eqOk, flatD, eqd]
theorem eq_ss {i j} : eqD (.str i) (.str j) = some (.bl (i == j)) := by simp [eqD, eqOk, flatD, eqd]
theorem ne_ss {i j} : neD (.str i) (.str j) = some (.bl (!(i == j))) := by simp [neD, eqOk, flatD, eqd]
theorem eq_bb {i j} : eqD (.bl i) (.bl j) = some (.bl (i == j)) := by simp [eqD, eqOk, flatD, eqd]
theorem ne_bb {i j} : neD (.bl i) (.bl j) = some (.bl (!(i == j))) := by simp [neD, eqOk, flatD, eqd]
theorem mul_l {i j : Int} (h : -(2 ^ 64) < i ∧ i < 2 ^ 64) : mulD (.int i) (.int j) = some (.int (i * j)) := by
  show (if CMulD i j then some (D.int (i * j)) else none) = _
  rw [if_pos (.inl (.inl h))]
theorem mul_r {i j : Int} (h : -(2 ^ 64) < j ∧ j < 2 ^ 64) : mulD (.int i) (.int j) = some (.int (i * j)) := by
  show (if CMulD i j then some (D.int (i * j)) else none) = _
  rw [if_pos (.inl (.inr h))]
theorem log2_lt {n k : Nat} (h : n < 2 ^ k) (hk : 0 < k) : n.log2 < k := by
  by_cases h0 : n = 0
  · subst h0; simpa using hk
  · exact (Nat.log2_lt h0).mpr h
theorem div_s {i j : Int} (h : 0 < j ∧ j < 2 ^ 64) : divD (.int i) (.int j) = some (.int (i / j)) := by
  show (if CDivW i j then some (D.int (i / j)) else none) = _
  have a : j.natAbs.log2 < 64 := log2_lt (by omega) (by decide)
  rw [if_pos ⟨h.1, by omega⟩]
theorem mod_p {i j : Int} (h : 0 < j) : modD (.int i) (.int j) = some (.int (i % j)) := by
  show (if 0 < j then some (D.int (i % j)) else none) = _
  rw [if_pos h]
theorem ix_t {xs : List D} {i : Int} (h : 0 ≤ i ∧ i < xs.length) : ixD (.tup xs) (.int i) = some (xs.getD i.toNat .non) := by
  show atI xs i = _
  unfold atI ixN
  rw [if_pos h.1, if_pos h.2]
  show xs[i.toNat]? = _
  rw [List.getElem?_eq_getElem (by omega), List.getD_eq_getElem?_getD, List.getElem?_eq_getElem (by omega)]
  rfl
theorem ix_l {xs : List D} {i : Int} (h : 0 ≤ i ∧ i < xs.length) : ixD (.lst xs) (.int i) = some (xs.getD i.toNat .non) := by
  show atI xs i = _
  unfold atI ixN
  rw [if_pos h.1, if_pos h.2]
  show xs[i.toNat]? = _
  rw [List.getElem?_eq_getElem (by omega), List.getD_eq_getElem?_getD, List.getElem?_eq_getElem (by omega)]
  rfl
theorem ix_tm {xs : List D} {i m : Int} (h : 0 < m ∧ m ≤ xs.length) : ixD (.tup xs) (.int (i % m)) = some (xs.getD (i % m).toNat .non) := ix_t ⟨Int.emod_nonneg _ (by omega), Int.lt_of_lt_of_le (Int.emod_lt_of_pos _ h.1) h.2⟩
theorem ix_lm {xs : List D} {i m : Int} (h : 0 < m ∧ m ≤ xs.length) : ixD (.lst xs) (.int (i % m)) = some (xs.getD (i % m).toNat .non) := ix_l ⟨Int.emod_nonneg _ (by omega), Int.lt_of_lt_of_le (Int.emod_lt_of_pos _ h.1) h.2⟩
theorem ix_t0 {a : D} {r : List D} : ixD (.tup (a :: r)) (.int 0) = some a := by
  show atI (a :: r) 0 = _
  unfold atI ixN
  rw [if_pos (by decide), if_pos (by simp only [List.length_cons]; omega)]
  rfl
theorem ix_t1 {a b : D} {r : List D} : ixD (.tup (a :: b :: r)) (.int 1) = some b := by
  show atI (a :: b :: r) 1 = _
  unfold atI ixN
  rw [if_pos (by decide), if_pos (by simp only [List.length_cons]; omega)]
  rfl
theorem ix_t2 {a b c : D} {r : List D} : ixD (.tup (a :: b :: c :: r)) (.int 2) = some c := by
  show atI (a :: b :: c :: r) 2 = _
  unfold atI ixN
  rw [if_pos (by decide), if_pos (by simp only [List.length_cons]; omega)]
  rfl
theorem ix_t3 {a b c d : D} {r : List D} : ixD (.tup (a :: b :: c :: d :: r)) (.int 3) = some d := by
  show atI (a :: b :: c :: d :: r) 3 = _
  unfold atI ixN
  rw [if_pos (by decide), if_pos (by simp only [List.length_cons]; omega)]
  rfl
theorem ix_t4 {a b c d e : D} {r : List D} : ixD (.tup (a :: b :: c :: d :: e :: r)) (.int 4) = some e := by
  show atI (a :: b :: c :: d :: e :: r) 4 = _
  unfold atI ixN
  rw [if_pos (by decide), if_pos (by simp only [List.length_cons]; omega)]
  rfl
theorem ix_t5 {a b c d e f : D} {r : List D} : ixD (.tup (a :: b :: c :: d :: e :: f :: r)) (.int 5) = some f := by
  show atI (a :: b :: c :: d :: e :: f :: r) 5 = _
  unfold atI ixN
  rw [if_pos (by decide), if_pos (by simp only [List.length_cons]; omega)]
  rfl
theorem ix_t6 {a b c d e f g : D} {r : List D} : ixD (.tup (a :: b :: c :: d :: e :: f :: g :: r)) (.int 6) = some g := by
  show atI (a :: b :: c :: d :: e :: f :: g :: r) 6 = _
  unfold atI ixN
  rw [if_pos (by decide), if_pos (by simp only [List.length_cons]; omega)]
  rfl
theorem ix_t7 {a b c d e f g h : D} {r : List D} : ixD (.tup (a :: b :: c :: d :: e :: f :: g :: h :: r)) (.int 7) = some h := by
  show atI (a :: b :: c :: d :: e :: f :: g :: h :: r) 7 = _
  unfold atI ixN
  rw [if_pos (by decide), if_pos (by simp only [List.length_cons]; omega)]
  rfl
theorem ix_l0 {a : D} {r : List D} : ixD (.lst (a :: r)) (.int 0) = some a := by
  show atI (a :: r) 0 = _
  unfold atI ixN
  rw [if_pos (by decide), if_pos (by simp only [List.length_cons]; omega)]
  rfl
theorem ix_l1 {a b : D} {r : List D} : ixD (.lst (a :: b :: r)) (.int 1) = some b := by
  show atI (a :: b :: r) 1 = _
  unfold atI ixN
  rw [if_pos (by decide), if_pos (by simp only [List.length_cons]; omega)]
  rfl
theorem ix_l2 {a b c : D} {r : List D} : ixD (.lst (a :: b :: c :: r)) (.int 2) = some c := by
  show atI (a :: b :: c :: r) 2 = _
  unfold atI ixN
  rw [if_pos (by decide), if_pos (by simp only [List.length_cons]; omega)]
  rfl
theorem ix_l3 {a b c d : D} {r : List D} : ixD (.lst (a :: b :: c :: d :: r)) (.int 3) = some d := by
  show atI (a :: b :: c :: d :: r) 3 = _
  unfold atI ixN
  rw [if_pos (by decide), if_pos (by simp only [List.length_cons]; omega)]
  rfl
theorem ix_l4 {a b c d e : D} {r : List D} : ixD (.lst (a :: b :: c :: d :: e :: r)) (.int 4) = some e := by
  show atI (a :: b :: c :: d :: e :: r) 4 = _
  unfold atI ixN
  rw [if_pos (by decide), if_pos (by simp only [List.length_cons]; omega)]
  rfl
theorem ix_l5 {a b c d e f : D} {r : List D} : ixD (.lst (a :: b :: c :: d :: e :: f :: r)) (.int 5) = some f := by
  show atI (a :: b :: c :: d :: e :: f :: r) 5 = _
  unfold atI ixN
  rw [if_pos (by decide), if_pos (by simp only [List.length_cons]; omega)]
  rfl
theorem ix_l6 {a b c d e f g : D} {r : List D} : ixD (.lst (a :: b :: c :: d :: e :: f :: g :: r)) (.int 6) = some g := by
  show atI (a :: b :: c :: d :: e :: f :: g :: r) 6 = _
  unfold atI ixN
  rw [if_pos (by decide), if_pos (by simp only [List.length_cons]; omega)]
  rfl
theorem ix_l7 {a b c d e f g h : D} {r : List D} : ixD (.lst (a :: b :: c :: d :: e :: f :: g :: h :: r)) (.int 7) = some h := by
  show atI (a :: b :: c :: d :: e :: f :: g :: h :: r) 7 = _
  unfold atI ixN
  rw [if_pos (by decide), if_pos (by simp only [List.length_cons]; omega)]
  rfl
theorem len_t {xs : List D} : lenD [.tup xs] = some (.int xs.length) := rfl
theorem len_l {xs : List D} : lenD [.lst xs] = some (.int xs.length) := rfl
theorem len_a {xs : List Int} : lenD [.arr xs] = some (.int xs.length) := rfl
theorem abs_i {i : Int} : absD [.int i] = some (.int (if i < 0 then -i else i)) := rfl
theorem max_ii {i j : Int} : maxD [.int i, .int j] = some (.int (if j > i then j else i)) := rfl
theorem min_ii {i j : Int} : minD [.int i, .int j] = some (.int (if j < i then j else i)) := rfl
theorem int_i {i : Int} : intD [.int i] = some (.int i) := rfl
theorem int_b {b : Bool} : intD [.bl b] = some (.int (if b then 1 else 0)) := rfl
theorem int_t : intD [.bl true] = some (.int 1) := rfl
theorem int_f : intD [.bl false] = some (.int 0) := rfl
theorem kit_bb : kitB "bool" "bool" = some true := by decide +kernel
theorem kit_tt : kitB "tuple" "tuple" = some true := by decide +kernel
theorem isi_b {i n b} (h : kitB "bool" n = some b) : isiD [.bl i, .ty n] = some (.bl b) := by simp [isiD, tyD, h]
theorem isi_t {i n b} (h : kitB "tuple" n = some b) : isiD [.tup i, .ty n] = some (.bl b) := by simp [isiD, tyD, h]
theorem isi_l {i n b} (h : kitB "list" n = some b) : isiD [.lst i, .ty n] = some (.bl b) := by simp [isiD, tyD, h]
end
end DN
namespace DN
open PySem PySem.Spec PyProof.Rows L2
instance : Decidable (CPow i j) := by unfold CPow; infer_instance
end DN
namespace DN
open PySem PySem.Spec PyProof.Rows L2
open LamX (Tabs ExtN)

/-! ### methods of texts -/
def rDm (K : PySem.W.Frag) (T : List (Addr × Str)) (G : D → List D → Option D) : V → List V → Hp → VK → Prop := fun x xs H Q =>
  ∃ F d ds z, Fz F H ∧ Rp K F x d ∧ RpAll K F xs ds ∧ G d ds = some z ∧ ∀ v F' H', Nx T F H F' H' → Rp K F' v z → Q v H'
def met (G : D → List D → Option D) (f : Rho → Res D) (g : Rho → Res (List D)) : Rho → Res D := fun ρ => (f ρ).bind fun d => match d with
  | .str x => (g ρ).bind fun ds => ofO (G (.str x) ds)
  | _ => .bad
section
variable {X : Cx} {T : List (Addr × Str)} {W : WX}
theorem e_met {name : Str} {id : String} {G : D → List D → Option D} {o e : Expr} {es : List Expr} {f : Rho → Res D} {g : Rho → Res (List D)} {apos pos : Pos} (pa : PlainAttrs "str") (slot : Slot "str" name id) (hty : typeOf (.builtin id) = pure (.type "method_descriptor")) (hm : MtR X id (rDm X.K T G)) (ho : DE X T W o f) (ha : DA X T W (e :: es) g)
    (h1 : attributeBase o name X.env (eval o X.env) = eval o X.env := by rfl) (h5 : ((backTo pos (starEach (e :: es) X.env)).all (fun x => !x.1) && (backToKw pos (keywordEach [] X.env)).all (fun x => x.1.isSome) && decide ((e :: es).length + ([] : List Keyword).length + (if ([] : List Keyword).isEmpty then 0 else 1) < 30)) = true := by rfl) (h2 : (apos.endLine == pos.line) = true := by rfl) (h3 : starEach (e :: es) X.env = (false, eval e X.env) :: starEach es X.env := by rfl) (h4 : (backTo pos (starEach es X.env)).any (·.1) = false := by rfl) : DE X T W (.Call (.Attribute o name apos) (e :: es) [] pos) (met G f g) :=
  (pe_bm pa slot hty hm ho ha h1 h5 h2 h3 h4).to fun σ H Q ⟨ρ, F, a, h⟩ => by
    refine ⟨ρ, F, a, (aft.bind (R := Rp X.K) h).imp fun d _ v F1 H1 _ _ q => ?_⟩
    obtain ⟨b, F2, _, n, rv, q⟩ := q
    cases rv with
    | str x =>
      refine ⟨rfl, ρ, F2, a.nx n, (aft.bind (R := RpAll X.K) q).imp fun ds _ vs F3 H3 _ _ q => ?_⟩
      obtain ⟨ds', F4, _, n2, rs, q⟩ := q
      obtain ⟨z, hz, q⟩ := ofO_ok q
      exact ⟨F4, .str x, ds', z, n2.z, .str x, rs, hz, q⟩
    | _ => exact q.elim
def splitD : D → List D → Option D
  | .str a, [.str b] => if (b.length == 0) = false ∧ a.length + 2 ≤ sizeLine then some (.lst ((Txt.split a b).map .str)) else none
  | _, _ => none
def strsO : List D → Option (List Str)
  | [] => some []
  | .str x :: r => (strsO r).map (x :: ·)
  | _ => none
def joinD : D → List D → Option D
  | .str a, [.lst xs] => (strsO xs).bind fun ys => if (ys.map (·.length)).sum + ys.length * a.length ≤ 16777216 then some (.str (Txt.join a ys)) else none
  | .str a, [.tup xs] => (strsO xs).bind fun ys => if (ys.map (·.length)).sum + ys.length * a.length ≤ 16777216 then some (.str (Txt.join a ys)) else none
  | _, _ => none
theorem m_split : MtR X "str.split" (rDm X.K T splitD) := by
  intro pins s σ H x xs v us Q I rx rs h
  obtain ⟨F, d, ds, z, hz, rd, rds, hG, q⟩ := h
  unfold splitD at hG
  split at hG
  · cases rd
    obtain ⟨v1, rfl, r1⟩ := all1 rds
    cases r1
    split at hG
    · rename_i hc
      cases hG
      exact mt_split pins s σ H _ _ v us Q I rx rs ⟨_, _, rfl, rfl, hc.1, hc.2, fun p hp => donep hz hp ntL q (rp_lst hz hp (RpAll.strs _))⟩
    · cases hG
  · cases hG
theorem strs_rp {K : PySem.W.Frag} {F : Hp} : ∀ {ds : List D} {xs : List V} {ys : List Str}, RpAll K F xs ds → strsO ds = some ys → xs = ys.map V.str
  | [], _, ys, .nil, h => by cases h; rfl
  | d :: ds, _, ys, .cons r t, h => by
    cases d with
    | str x =>
      have h : (strsO ds).map (x :: ·) = some ys := h
      cases e : strsO ds with
      | none => rw [e] at h; cases h
      | some ys' =>
        rw [e] at h
        cases h
        cases r
        rw [strs_rp t e] <;> rfl
    | _ => cases h
theorem m_join : MtR X "str.join" (rDm X.K T joinD) := by
  intro pins s σ H x xs v us Q I rx rs h
  obtain ⟨F, d, ds, z, hz, rd, rds, hG, q⟩ := h
  unfold joinD at hG
  split at hG
  · rename_i a es
    cases rd
    obtain ⟨v1, rfl, r1⟩ := all1 rds
    cases e : strsO es with
    | none => rw [e] at hG; cases hG
    | some ys =>
      rw [e] at hG
      have hG : (if (ys.map (·.length)).sum + ys.length * a.length ≤ 16777216 then some (D.str (Txt.join a ys)) else none) = some z := hG
      split at hG
      · rename_i hc
        cases hG
        cases r1 with
        | lst h1 r1 =>
          have ex := strs_rp r1 e
          subst ex
          exact mt_join pins s σ H _ _ v us Q I rx rs ⟨a, _, ys, rfl, rfl, .inl (SqL.of (hz.sub _ _ h1)), hc, done0 hz q (.str _)⟩
      · cases hG
  · rename_i a es
    cases rd
    obtain ⟨v1, rfl, r1⟩ := all1 rds
    cases e : strsO es with
    | none => rw [e] at hG; cases hG
    | some ys =>
      rw [e] at hG
      have hG : (if (ys.map (·.length)).sum + ys.length * a.length ≤ 16777216 then some (D.str (Txt.join a ys)) else none) = some z := hG
      split at hG
      · rename_i hc
        cases hG
        cases r1 with
        | tup h1 r1 =>
          have ex := strs_rp r1 e
          subst ex
          exact mt_join pins s σ H _ _ v us Q I rx rs ⟨a, _, ys, rfl, rfl, .inr (hz.sub.st h1), hc, done0 hz q (.str _)⟩
      · cases hG
  · cases hG
end
/-! evaluating -/
def metR (G : D → List D → Option D) (r : Res D) (l : Res (List D)) : Res D := r.bind fun d => match d with
  | .str x => l.bind fun ds => ofO (G (.str x) ds)
  | _ => .bad
theorem met_def {ρ : Rho} {G f g} : met G f g ρ = metR G (f ρ) (g ρ) := rfl
theorem metR_ok {G x ds} : metR G (.ok (.str x)) (.ok ds) = ofO (G (.str x) ds) := rfl
end DN
namespace DN
open PySem PySem.Spec PyProof.Rows L2
open LamX (Tabs ExtN CodeO GivesTo tLam LamS TabB lamCx lamEnv)

/-! ### list.count, flat items -/
section
variable {X : Cx}
end

/-! ### told: what an own error is told as -/
section
variable {X : Cx} {T : List (Addr × Str)}
end
end DN
namespace DN
open PySem PySem.Spec PyProof.Rows L2
open LamX (Tabs ExtN CodeO GivesTo tLam LamS TabB lamCx lamEnv)

section
variable {X : Cx} {T : List (Addr × Str)} {W : WX}
end
theorem exc_n {K : PySem.W.Frag} {h : Heap} {mg : Str → Option Value} {x : Str} (X : K.In h) (G : h.Ns mainGlobals mg) (c : (He.Fa.glo x).ok K = true) (e : (He.Fa.exc x).ok K = true) : ExcN K mg x := by
  obtain ⟨h1, h2, h3, h4⟩ := He.exc_ok e
  exact ⟨h1, h2, h3, h4, He.glo_ok X G c⟩
end DN
namespace DN
open PySem PySem.Spec PyProof.Rows L2
open LamX (Tabs ExtN)
section
variable {X : Cx} {T : List (Addr × Str)} {W : WX}
end
end DN
namespace DN
open PySem PySem.Spec PyProof.Rows L2
open LamX (Tabs ExtN)

/-! ### a module's dict of defs, text keys -/
theorem dicW_full {K : PySem.W.Frag} {w : World} {a : Addr} {ks : List Str} (h : He.dicW K a = some (He.keysIn w.params ks)) : ∃ es n, KDict K w a es n ∧ es.toList.map He.keyOf = He.keysIn w.params ks := by
  obtain ⟨es, n, D⟩ := He.dicW_ok h
  refine ⟨es, n, D, ?_⟩
  unfold He.dicW at h
  rw [D.at_] at h
  simp only [D.low] at h
  exact Option.some.inj h
theorem keys_miss {P : Params} {z : Str} : ∀ {l : List DictEntry} {ks : List Str}, l.map He.keyOf = He.keysIn P ks → z ∉ ks → l.find? (·.key.isStr z) = none ∧ l.any (·.refKey) = false
  | [], _, _, _ => ⟨rfl, rfl⟩
  | e :: r, [], h, _ => by cases h
  | e :: r, k :: ks, h, hz => by
    have h1 : He.keyOf e :: r.map He.keyOf = some (k, PyData.keyHash P k) :: He.keysIn P ks := h
    injection h1 with h2 h3
    obtain ⟨i1, i2⟩ := keys_miss h3 (fun q => hz (List.mem_cons_of_mem _ q))
    have hk : ∃ t, e.key = .str k t := by
      unfold He.keyOf at h2
      split at h2
      · rename_i x t q
        obtain ⟨h5, _⟩ := Prod.mk.inj (Option.some.inj h2)
        exact ⟨t, by rw [q, h5]⟩
      · cases h2
    obtain ⟨t, hk⟩ := hk
    have n1 : e.key.isStr z = false := by
      rw [hk]
      show (k == z) = false
      exact beq_eq_false_iff_ne.mpr fun q => hz (by rw [q]; exact List.mem_cons_self)
    have n2 : e.refKey = false := by unfold DictEntry.refKey; rw [hk]
    refine ⟨?_, ?_⟩
    · rw [List.find?_cons, n1]; exact i1
    · rw [List.any_cons, n2, i2]; rfl
/-- the module's dict x: text keys, defs -/
structure DicF (w : World) (K : PySem.W.Frag) (mg : Str → Option Value) (x : Str) (kvs : List (Str × Str)) : Prop where
  kd : ∃ es n, KDict K w (He.ga K x) es n ∧ es.toList.map He.keyOf = He.keysIn w.params (kvs.map Prod.fst)
  vals : ∀ q ∈ kvs, ∃ u, PySem.W.nsIn K (He.ga K x) q.1 = some (some u) ∧ RelV (.ref (He.ga K q.2)) u
  g : mg x = some (.ref (He.ga K x))
def inT (ks : List Str) (f : Rho → Res D) : Rho → Res D := fun ρ => (f ρ).bind fun d => match d with
  | .str z => .ok (.bl (ks.contains z))
  | _ => .bad
theorem DicF.ns {w : World} {K : PySem.W.Frag} {mg : Str → Option Value} {x : Str} {kvs : List (Str × Str)} (D : DicF w K mg x kvs) (z : Str) : ∃ r, PySem.W.nsIn K (He.ga K x) z = some r ∧ r.isSome = (kvs.map Prod.fst).contains z := by
  by_cases h : z ∈ kvs.map Prod.fst
  · obtain ⟨q, hq, rfl⟩ := List.mem_map.mp h
    obtain ⟨u, h1, _⟩ := D.vals q hq
    exact ⟨some u, h1, by rw [List.contains_iff_mem.mpr h]; rfl⟩
  · obtain ⟨es, n, kd, hk⟩ := D.kd
    obtain ⟨h1, h2⟩ := keys_miss hk h
    refine ⟨none, ?_, ?_⟩
    · unfold PySem.W.nsIn
      rw [kd.at_]
      simp only [h1, h2]
      rfl
    · have : (kvs.map Prod.fst).contains z = false := by
        rw [Bool.eq_false_iff]
        exact fun q => h (List.contains_iff_mem.mp q)
      rw [this]; rfl
theorem dic_f {w : World} {K : PySem.W.Frag} {h : Heap} {mg : Str → Option Value} {x : Str} {kvs : List (Str × Str)} (X : K.In h) (G : h.Ns mainGlobals mg) (d : He.dicW K (He.ga K x) = some (He.keysIn w.params (kvs.map Prod.fst))) (v : He.valsB K (He.ga K x) (kvs.map fun q => (q.1, He.Dv.glo q.2)) = true) (g : (He.Fa.glo x).ok K = true) : DicF w K mg x kvs :=
  ⟨dicW_full d, fun q hq => He.valsB_ok v (q := (q.1, He.Dv.glo q.2)) (List.mem_map.mpr ⟨q, hq, rfl⟩), He.glo_ok X G g⟩
theorem tab_eq {fa : List He.Fa} {fn : List He.DefD} {ts : List He.Tab} {w : World} {K : PySem.W.Frag} (c : He.SaysT fa fn ts w K) (i : Nat) {t : He.Tab} (h : ts[i]? = some t) : He.dicW K (t.1 K) = some (He.keysIn w.params t.2) := by
  have e : ts.map (fun t => He.dicW K (t.1 K)) = ts.map fun t => some (He.keysIn w.params t.2) := congrArg (fun z : He.AlT => z.2) c
  have e2 : (ts.map fun t => He.dicW K (t.1 K))[i]? = (ts.map fun t => some (He.keysIn w.params t.2))[i]? := by rw [e]
  rw [List.getElem?_map, List.getElem?_map, h] at e2
  exact Option.some.inj e2
section
variable {X : Cx} {T : List (Addr × Str)} {W : WX} {F0 H0 : Hp}
theorem inT_to {w : World} {K : PySem.W.Frag} {mg : Str → Option Value} {x : Str} {kvs : List (Str × Str)} (Dd : DicF w K mg x kvs) {f : Rho → Res D} {σ : L2.St} {H : Hp} {Q : VK} (h : tE K T W (inT (kvs.map Prod.fst) f) σ H Q) :
    tOp (fun a b H Q => ∃ (z : Str) (r : Option Value), a = .str z ∧ b = .ref (He.ga K x) ∧ PySem.W.nsIn K (He.ga K x) z = some r ∧ Q (.bl r.isSome) H) (tE K T W f) (tC (.ref (He.ga K x))) σ H Q := by
  obtain ⟨ρ, F, a, h⟩ := h
  refine ⟨ρ, F, a, (aft.bind (R := Rp K) h).imp fun d _ v F1 H1 _ _ q => ?_⟩
  obtain ⟨b, F2, _, n, rv, q⟩ := q
  cases rv with
  | str z =>
    obtain ⟨r, h1, h2⟩ := Dd.ns z
    refine ⟨z, r, rfl, rfl, h1, ?_⟩
    rw [h2]
    exact q (.bl _) F2 H1 (Nx.refl n.z) (.bl _)
  | _ => exact q.elim
theorem q_inT {x : Str} {kvs : List (Str × Str)} {ks : List Str} {e : Expr} {f : Rho → Res D} {p pos : Pos} (Dd : DicF X.w X.K X.mg x kvs) (hg : Gl X x) (he : DE X T W e f) (hk : kvs.map Prod.fst = ks := by rfl) (hm : behindInMarks .In (.Name x p) = false := by rfl) (hd : (x == ("__debug__" : Str)) = false := by decide) :
    DQ X T W (.Compare e [.In] [.Name x p] pos) (tst (inT ks f)) := by
  subst hk
  obtain ⟨es, n, kd, _⟩ := Dd.kd
  exact (pt_cmpR (op_in_kd kd) he (pe_glob (v := .ref (He.ga X.K x)) hg Dd.g rfl hd) hm).to fun _ _ _ h => inT_to Dd (tst_to h)
/-! ### a call of a name that holds a def -/
/-! ### try with two handlers -/
end
end DN
namespace DN
open PySem PySem.Spec PyProof.Rows L2
open LamX (Tabs ExtN)

theorem tup_strs {K : PySem.W.Frag} {H : Hp} {a : Addr} {zs : List Str} (h : SqT K H a ((zs.map He.Dv.str).map (He.Dv.v K))) : SqT K H a (zs.map V.str) := by
  rw [List.map_map] at h
  exact h
section
variable {X : Cx} {T : List (Addr × Str)} {W : WX} {F0 H0 : Hp}
/-! ### a display of text keys that is used at once -/
end
end DN
namespace DN
open PySem PySem.Spec PyProof.Rows L2
open LamX (Tabs ExtN)

section
variable {X : Cx} {T : List (Addr × Str)} {W : WX} {F0 H0 : Hp}
/-! ### a display of text keys, its item taken at once -/
end
/-! ### a module's dict of texts -/
structure DicS (w : World) (K : PySem.W.Frag) (mg : Str → Option Value) (x : Str) (kvs : List (Str × Str)) : Prop where
  kd : ∃ es n, KDict K w (He.ga K x) es n ∧ es.toList.map He.keyOf = He.keysIn w.params (kvs.map Prod.fst)
  vals : ∀ q ∈ kvs, ∃ u, PySem.W.nsIn K (He.ga K x) q.1 = some (some u) ∧ RelV (.str q.2) u
  g : mg x = some (.ref (He.ga K x))
theorem DicS.ns {w : World} {K : PySem.W.Frag} {mg : Str → Option Value} {x : Str} {kvs : List (Str × Str)} (D : DicS w K mg x kvs) (z : Str) : ∃ r, PySem.W.nsIn K (He.ga K x) z = some r ∧ r.isSome = (kvs.map Prod.fst).contains z := by
  by_cases h : z ∈ kvs.map Prod.fst
  · obtain ⟨q, hq, rfl⟩ := List.mem_map.mp h
    obtain ⟨u, h1, _⟩ := D.vals q hq
    exact ⟨some u, h1, by rw [List.contains_iff_mem.mpr h]; rfl⟩
  · obtain ⟨es, n, kd, hk⟩ := D.kd
    obtain ⟨h1, h2⟩ := keys_miss hk h
    refine ⟨none, ?_, ?_⟩
    · unfold PySem.W.nsIn
      rw [kd.at_]
      simp only [h1, h2]
      rfl
    · have : (kvs.map Prod.fst).contains z = false := by
        rw [Bool.eq_false_iff]
        exact fun q => h (List.contains_iff_mem.mp q)
      rw [this]; rfl
section
variable {X : Cx} {T : List (Addr × Str)} {W : WX} {F0 H0 : Hp}
/-! ### a def of which nothing is promised: the recursion's ground -/
end
end DN
/-! lists of the frame's own: made, appended to, stored into, read, frozen -/
namespace DN
open PySem PySem.Spec PyProof.Rows L2
open LamX (Tabs ExtN)

def D.flat : D → Bool
  | .non => true
  | .bl _ => true
  | .int _ => true
  | .str _ => true
  | _ => false
def flatR : Res D → Res D
  | .ok d => if d.flat = true then .ok d else .bad
  | r => r
def frz (i : Nat) (ρ : Rho) : Rho := match ρ[i]? with
  | some (.o (.lst ds)) => ρ.set i (.z (.lst ds))
  | _ => ρ
def bor (i : Nat) (f : Rho → Res D) : Rho → Res D := fun ρ => flatR (f (frz i ρ))
def borQ (i : Nat) (f : Rho → Res Bool) : Rho → Res Bool := fun ρ => f (frz i ρ)
theorem Rp.flat {K : PySem.W.Frag} {F F' : Hp} {v : V} {d : D} (h : Rp K F v d) (e : d.flat = true) : Rp K F' v d := by
  cases h <;> first | exact .non | exact .bl _ | exact .int _ | exact .str _ | cases e
section
variable {K : PySem.W.Frag} {T : List (Addr × Str)} {W : WX} {F0 H0 F H : Hp} {σ : L2.St} {ρ : Rho}
theorem At.frz (a : At K T F H σ ρ) (i : Nat) : ∃ F1, At K T F1 H σ (frz i ρ) ∧ Sub F F1 ∧ (∀ F' H', Nx T F1 H F' H' → Nx T F H F H') ∧ (∀ F0 H0, Nx T F0 H0 F H → Ow H0 σ ρ → Nx T F0 H0 F1 H ∧ Ow H0 σ (frz i ρ)) := by
  have triv : ∃ F1, At K T F1 H σ ρ ∧ Sub F F1 ∧ (∀ F' H', Nx T F1 H F' H' → Nx T F H F H') ∧ (∀ F0 H0, Nx T F0 H0 F H → Ow H0 σ ρ → Nx T F0 H0 F1 H ∧ Ow H0 σ ρ) :=
    ⟨F, a, Sub.refl F, fun F' H' n => ⟨Sub.refl F, ⟨n.f.trans n.z.sub, a.z.nt⟩, n.h, fun _ _ h => .inl h, n.tab⟩, fun F0 H0 n o => ⟨n, o⟩⟩
  unfold DN.frz
  split
  · rename_i ds e
    obtain ⟨p, hs, hp, xs, hx, rx⟩ := a.r.o i _ e
    have sb : Sub F (upd F p (.lst xs)) := fun b o eb => by
      rw [upd_ne fun z => by rw [z, hp] at eb; cases eb]; exact eb
    have z1 : Fz (upd F p (.lst xs)) H := ⟨fun b o eb => by
      by_cases hb : b = p
      · subst hb; rw [upd_same] at eb; rw [← eb]; exact hx
      · rw [upd_ne hb] at eb; exact a.z.sub _ _ eb, fun b ps eb => by
      by_cases hb : b = p
      · subst hb; rw [upd_same] at eb; cases eb
      · rw [upd_ne hb] at eb; exact a.z.nt _ _ eb⟩
    have il : i < ρ.length := (List.getElem?_eq_some_iff.mp e).1
    refine ⟨upd F p (.lst xs), ⟨z1, a.t, ?_⟩, sb, fun F' H' n => ⟨Sub.refl F, ⟨sb.trans (n.f.trans n.z.sub), a.z.nt⟩, n.h, fun _ _ h => .inl h, n.tab⟩, fun F0 H0 n o => ⟨⟨n.f.trans sb, z1, n.h, fun b u eb => ?_, n.tab⟩, fun j d q h1 h2 => ?_⟩⟩
    · refine ⟨by rw [List.length_set]; exact a.r.len, fun j d hj => ?_, fun j d hj => ?_, fun j k d1 d2 q1 q2 hn h1 h2 h3 h4 => ?_⟩
      · rw [List.getElem?_set] at hj
        by_cases hij : i = j
        · subst hij
          rw [if_pos rfl, if_pos il] at hj
          cases hj
          exact ⟨_, hs, .lst upd_same (rx.mono sb)⟩
        · rw [if_neg hij] at hj
          obtain ⟨v, h1, h2⟩ := a.r.z j d hj
          exact ⟨v, h1, h2.mono sb⟩
      · rw [List.getElem?_set] at hj
        by_cases hij : i = j
        · subst hij
          rw [if_pos rfl, if_pos il] at hj
          cases hj
        · rw [if_neg hij] at hj
          obtain ⟨q, h1, h2, h3⟩ := a.r.o j d hj
          have hne : p ≠ q := a.r.ne i j _ _ p q hij e hj hs h1
          refine ⟨q, h1, by rw [upd_ne (Ne.symm hne)]; exact h2, ?_⟩
          cases d with
          | lst es => obtain ⟨ys, k1, k2⟩ := h3; exact ⟨ys, k1, k2.mono sb⟩
          | dK _ => exact h3
          | dT _ => exact h3
          | dic _ _ _ _ => obtain ⟨es, k1, k2⟩ := h3; exact ⟨es, k1, k2.mono sb⟩
          | ins _ _ _ => obtain ⟨dx, ws, k1, k2⟩ := h3; exact ⟨dx, ws, k1, k2.mono sb⟩
          | _ => exact h3.elim
      · rw [List.getElem?_set] at h1 h2
        have fj : i ≠ j := fun z => by rw [if_pos z] at h1; split at h1 <;> cases h1
        have fk : i ≠ k := fun z => by rw [if_pos z] at h2; split at h2 <;> cases h2
        rw [if_neg fj] at h1
        rw [if_neg fk] at h2
        exact a.r.ne j k d1 d2 q1 q2 hn h1 h2 h3 h4
    · by_cases hb : b = p
      · subst hb
        exact .inr (o i _ b e hs)
      · rw [upd_ne hb] at eb; exact n.new _ _ eb
    · rw [List.getElem?_set] at h1
      by_cases hij : i = j
      · subst hij
        rw [if_pos rfl, if_pos il] at h1
        cases h1
      · rw [if_neg hij] at h1
        exact o j d q h1 h2
  · exact triv
end
section
variable {X : Cx} {T : List (Addr × Str)} {W : WX} {F0 H0 : Hp}
def sfrz (i : Nat) (s : Rho → SR) : Rho → SR := fun ρ => s (frz i ρ)
end

/-! ### made -/
def aftO (K : PySem.W.Frag) (T : List (Addr × Str)) (W : WX) (σ : L2.St) (F H : Hp) (Q : V → Hp → Prop) : Res D → Prop
  | .ok (.lst ds) => ∀ p vs F' H', Nx T F H F' H' → F' p = none → H' p = some (.lst vs) → RpAll K F' vs ds → (∀ o, H p = some o → ∃ ps, o = .tbl ps) → Q (.ref p) H'
  | .ok _ => False
  | .ex n => ∀ F' H', Nx T F H F' H' → W (.ref (He.ga K n)) none σ H'
  | .bad => False
def sown (f : Rho → Res D) (i : Nat) : Rho → SR := fun ρ => bindS (f ρ) ρ fun d => match d with
  | .lst ds => .nx (ρ.set i (.o (.lst ds)))
  | _ => .bad
section
variable {K : PySem.W.Frag} {T : List (Addr × Str)} {W : WX} {F0 H0 F H : Hp} {σ : L2.St} {ρ : Rho}
theorem Rl.setO {i : Nat} {p : Addr} {vs : List V} {ds : List D} (r : Rl K F H σ ρ) (hp : F p = none) (hx : H p = some (.lst vs)) (rx : RpAll K F vs ds) (fr : ∀ (j : Nat) (d : D) (q : Addr), ρ[j]? = some (En.o d) → σ[j]? = some (some (V.ref q)) → q ≠ p) :
    Rl K F H (σ.set i (some (.ref p))) (ρ.set i (.o (.lst ds))) where
  len := by rw [List.length_set, List.length_set]; exact r.len
  z := fun j e hj => by
    rw [List.getElem?_set] at hj ⊢
    by_cases hij : i = j
    · subst hij
      rw [if_pos rfl] at hj
      split at hj <;> cases hj
    · rw [if_neg hij] at hj ⊢
      exact r.z j e hj
  o := fun j e hj => by
    rw [List.getElem?_set] at hj ⊢
    by_cases hij : i = j
    · subst hij
      rw [if_pos rfl] at hj ⊢
      by_cases hl : i < ρ.length
      · rw [if_pos hl] at hj
        rw [if_pos (by rw [r.len]; exact hl)]
        cases hj
        exact ⟨p, rfl, hp, vs, hx, rx⟩
      · rw [if_neg hl] at hj; cases hj
    · rw [if_neg hij] at hj ⊢
      exact r.o j e hj
  ne := fun j k a b q1 q2 hn h1 h2 h3 h4 => by
    rw [List.getElem?_set] at h1 h2 h3 h4
    by_cases fj : i = j
    · have fk : i ≠ k := fun z => hn (fj.symm.trans z)
      rw [if_neg fk] at h2 h4
      rw [if_pos fj] at h3
      have : q1 = p := by split at h3 <;> cases h3; rfl
      rw [this]
      exact Ne.symm (fr k _ q2 h2 h4)
    · rw [if_neg fj] at h1 h3
      by_cases fk : i = k
      · rw [if_pos fk] at h4
        have : q2 = p := by split at h4 <;> cases h4; rfl
        rw [this]
        exact fr j _ q1 h1 h3
      · rw [if_neg fk] at h2 h4
        exact r.ne j k a b q1 q2 hn h1 h2 h3 h4
theorem Ow.setO {i : Nat} {p : Addr} {d : D} (o : Ow H0 σ ρ) (hp : ∀ o, H0 p = some o → ∃ ps, o = .tbl ps) : Ow H0 (σ.set i (some (.ref p))) (ρ.set i (.o d)) := fun j e q h1 h2 => by
  rw [List.getElem?_set] at h1 h2
  by_cases hij : i = j
  · rw [if_pos hij] at h2
    have : q = p := by split at h2 <;> cases h2; rfl
    rw [this]; exact hp
  · rw [if_neg hij] at h1 h2
    exact o j e q h1 h2
/-- an own list made at p, bound to slot i -/
theorem Sg.own {F1 H1 : Hp} {i : Nat} {p : Addr} {vs : List V} {ds : List D} (g : Sg K T F0 H0 F H σ ρ) (n : Nx T F H F1 H1) (hp : F1 p = none) (hx : H1 p = some (.lst vs)) (rx : RpAll K F1 vs ds) (fr : ∀ o, H p = some o → ∃ ps, o = .tbl ps) :
    Sg K T F0 H0 F1 H1 (σ.set i (some (.ref p))) (ρ.set i (.o (.lst ds))) := by
  have g1 := g.step n
  refine ⟨⟨g1.at_.z, g1.at_.t, g1.at_.r.setO hp hx rx fun j d q h1 h2 e => ?_⟩, g1.nx, g1.ow.setO fun o ho => ?_⟩
  · obtain ⟨q', k1, k2, k3⟩ := g.at_.r.o j d h1
    rw [h2] at k1
    cases k1
    obtain ⟨o, k4, k5⟩ := k3.solid
    rw [e] at k4
    obtain ⟨ps, k6⟩ := fr o k4
    exact k5 ps k6
  · by_cases q : ∃ ps, o = .tbl ps
    · exact q
    · exact fr o (g.nx.h p o ho fun ps z => q ⟨ps, z⟩)
end
section
variable {X : Cx} {T : List (Addr × Str)} {W : WX} {F0 H0 : Hp}
theorem back_tbl {H H2 : Hp} {p : Addr} (n : ExtN H H2) (fr : ∀ o, H2 p = some o → ∃ ps, o = .tbl ps) : ∀ o, H p = some o → ∃ ps, o = .tbl ps := fun o ho => by
  by_cases q : ∃ ps, o = .tbl ps
  · exact q
  · exact fr o (n p o ho fun ps z => q ⟨ps, z⟩)
theorem aftO.bind {K : PySem.W.Frag} {σ : L2.St} {F H : Hp} {α β : Type} {R : Hp → α → β → Prop} {Q : V → Hp → Prop} {r : Res β} {k : β → Res D} (h : aftO K T W σ F H Q (r.bind k)) :
    aft R K T W σ F H (fun a H1 => ∃ b F1, r = .ok b ∧ Nx T F H F1 H1 ∧ R F1 a b ∧ aftO K T W σ F1 H1 Q (k b)) r := by
  cases r with
  | ok b =>
    refine fun a F2 H2 n ra => ⟨b, F2, rfl, n, ra, ?_⟩
    have h : aftO K T W σ F H Q (k b) := h
    cases e : k b with
    | ok d =>
      rw [e] at h
      cases d with
      | lst ds => exact fun p vs F' H' n2 hp hx rx fr => h p vs F' H' (n.trans n2) hp hx rx (back_tbl n.h fr)
      | _ => exact h.elim
    | ex m => rw [e] at h; exact fun F' H' n2 => h F' H' (n.trans n2)
    | bad => rw [e] at h; exact h.elim
  | ex m => exact h
  | bad => exact h
/-! ### appended, stored, read -/
def ownR (i : Nat) (ρ : Rho) : Res (List D) := match ρ[i]? with
  | some (.o (.lst ds)) => .ok ds
  | _ => .bad
def sapp (i : Nat) (f : Rho → Res D) : Rho → SR := fun ρ => bindS (ownR i ρ) ρ fun ds => bindS (f ρ) ρ fun d => if ds.length < sizeLine then .nx (ρ.set i (.o (.lst (ds ++ [d])))) else .bad
theorem RpAll.set {K : PySem.W.Frag} {F : Hp} : ∀ {vs : List V} {ds : List D} (n : Nat) {v : V} {d : D}, RpAll K F vs ds → Rp K F v d → RpAll K F (vs.set n v) (ds.set n d)
  | _, _, _, _, _, .nil, _ => .nil
  | _, _, 0, _, _, .cons _ t, r => .cons r t
  | _, _, n + 1, _, _, .cons h t, r => .cons h (RpAll.set n t r)
def sput (i : Nat) (fk fe : Rho → Res D) : Rho → SR := fun ρ => bindS (fe ρ) ρ fun d => bindS (ownR i ρ) ρ fun ds => bindS (fk ρ) ρ fun k => match k with
  | .int j => (match ixN ds.length j with
    | some m => .nx (ρ.set i (.o (.lst (ds.set m d))))
    | none => .bad)
  | _ => .bad
def ixO (i : Nat) (fk : Rho → Res D) : Rho → Res D := fun ρ => (ownR i ρ).bind fun ds => (fk ρ).bind fun k => match k with
  | .int j => ofO (atI ds j)
  | _ => .bad
end
end DN
/-! comprehensions with any target; lists made so are own or frozen -/
namespace DN
open PySem PySem.Spec PyProof.Rows L2
open LamX (Tabs ExtN)

theorem At.wipe {K : PySem.W.Frag} {T : List (Addr × Str)} {F H : Hp} {σ : L2.St} {ρ : Rho} (a : At K T F H σ ρ) : ∀ vs : List Nat, At K T F H (L2.wipe σ vs) (wipeR ρ vs)
  | [] => a
  | v :: vs => ⟨a.z, a.t, (At.wipe a vs).r.wipe1⟩
/-! targets that touch the slots vs alone -/
section
variable {X : Cx} {T : List (Addr × Str)} {W : WX} {F0 H0 : Hp} {vs : List Nat}
end
section
variable {X : Cx} {T : List (Addr × Str)} {W : WX} {F0 H0 : Hp}
section
variable {j : Nat} {y : Str} {py : Pos} {elt tg iter : Expr} {ifs : List Expr} {scope : Scope} {own : List (Str × Nat)} {pos spos : Pos} {f : Rho → Res (List D)} {g : Tg} {t : Rho → Res Bool} {e : Rho → Res D}
end
end
end DN
/-! min, max and index of a list of ints; evaluation of own lists -/
namespace DN
open PySem PySem.Spec PyProof.Rows L2
open LamX (Tabs ExtN)

section
variable {X : Cx} {T : List (Addr × Str)} {W : WX} {F0 H0 : Hp}
end
/-! ### evaluation -/
section
variable {ρ : Rho}
def ownRR (r : Res D) (ρ : Rho) (i : Nat) : SR := bindS r ρ fun d => match d with
  | .lst ds => .nx (ρ.set i (.o (.lst ds)))
  | _ => .bad
theorem sown_def {f : Rho → Res D} {i : Nat} : sown f i ρ = ownRR (f ρ) ρ i := rfl
theorem ownRR_ok {ds : List D} {i : Nat} : ownRR (.ok (.lst ds)) ρ i = .nx (ρ.set i (.o (.lst ds))) := rfl
theorem frz_lst {ds : List D} {r : Rho} : frz 0 (.o (.lst ds) :: r) = .z (.lst ds) :: r := rfl
theorem frz_z {d : D} {r : Rho} : frz 0 (.z d :: r) = .z d :: r := rfl
theorem frz_u {r : Rho} : frz 0 (.u :: r) = .u :: r := rfl
theorem frz_succ {i : Nat} {e : En} {r : Rho} : frz (i + 1) (e :: r) = e :: frz i r := by
  unfold frz
  rw [List.getElem?_cons_succ]
  cases r[i]? with
  | none => rfl
  | some en =>
    cases en with
    | u => rfl
    | z d => rfl
    | o d => cases d <;> rfl
theorem sfrz_def {i : Nat} {s : Rho → SR} : sfrz i s ρ = s (frz i ρ) := rfl
theorem bor_def {i : Nat} {f : Rho → Res D} : bor i f ρ = flatR (f (frz i ρ)) := rfl
theorem borQ_def {i : Nat} {f : Rho → Res Bool} : borQ i f ρ = f (frz i ρ) := rfl
theorem flat_i {i : Int} : flatR (.ok (.int i)) = .ok (.int i) := rfl
theorem flat_s {x : Str} : flatR (.ok (.str x)) = .ok (.str x) := rfl
theorem flat_b {b : Bool} : flatR (.ok (.bl b)) = .ok (.bl b) := rfl
theorem flat_n : flatR (.ok .non) = .ok .non := rfl
theorem own_zero {ds : List D} {r : Rho} : ownR 0 (.o (.lst ds) :: r) = .ok ds := rfl
theorem own_succ {i : Nat} {e : En} {r : Rho} : ownR (i + 1) (e :: r) = ownR i r := rfl
def appRR (ds : Res (List D)) (r : Res D) (ρ : Rho) (i : Nat) : SR := bindS ds ρ fun ds => bindS r ρ fun d => if ds.length < sizeLine then .nx (ρ.set i (.o (.lst (ds ++ [d])))) else .bad
theorem sapp_def {i : Nat} {f : Rho → Res D} : sapp i f ρ = appRR (ownR i ρ) (f ρ) ρ i := rfl
def putRR (v : Res D) (ds : Res (List D)) (k : Res D) (ρ : Rho) (i : Nat) : SR := bindS v ρ fun d => bindS ds ρ fun ds => bindS k ρ fun k => match k with
  | .int j => (match ixN ds.length j with
    | some m => .nx (ρ.set i (.o (.lst (ds.set m d))))
    | none => .bad)
  | _ => .bad
theorem sput_def {i : Nat} {f g : Rho → Res D} : sput i f g ρ = putRR (g ρ) (ownR i ρ) (f ρ) ρ i := rfl
def ixRR (ds : Res (List D)) (k : Res D) : Res D := ds.bind fun ds => k.bind fun k => match k with
  | .int j => ofO (atI ds j)
  | _ => .bad
theorem ixO_def {i : Nat} {f : Rho → Res D} : ixO i f ρ = ixRR (ownR i ρ) (f ρ) := rfl
end
end DN
/-! list(x) as an own list -/
namespace DN
open PySem PySem.Spec PyProof.Rows L2
open LamX (Tabs ExtN)
section
variable {X : Cx} {T : List (Addr × Str)} {W : WX}
end
end DN
/-! sorted of a list of texts -/
namespace DN
open PySem PySem.Spec PyProof.Rows L2
open LamX (Tabs ExtN)
section
variable {X : Cx} {T : List (Addr × Str)} {W : WX}
end
end DN
/-! tuples of texts whose object is known: tuple(list), len, [], in, index, + -/
namespace DN
open PySem PySem.Spec PyProof.Rows L2
open LamX (Tabs ExtN)
section
variable {X : Cx} {T : List (Addr × Str)} {W : WX}
/-! a method of a tuple whose object is known -/
variable {o e : Expr} {es : List Expr} {to : TE} {t : TA} {name : Str} {apos cpos : Pos} {id : String} {r : V → List V → Hp → VK → Prop}
end
end DN
/-! str.replace: rules where a token is out -/
namespace DN
open PySem PySem.Spec PyProof.Rows L2
open LamX (Tabs ExtN)
section
variable {X : Cx} {T : List (Addr × Str)} {W : WX} {F0 H0 : Hp}
end
end DN
/-! zip of two lists, of two tuples -/
namespace DN
open PySem PySem.Spec PyProof.Rows L2
open LamX (Tabs ExtN)
open RZ (ItzT iZipA pi_zipA)
section
variable {X : Cx} {T : List (Addr × Str)} {W : WX}
end
end DN
/-! x.replace(y, z, 1); statements behind which a token is out -/
namespace PySem
open Builtin Builtin.Str
section
variable {prog : Program} {w : World} {A : Around} {E : Value → Shared → Prop} {s : Shared} {x y z : Str} {t u v c : Tok} {Q : Value → Shared → Prop}
end
end PySem
namespace DN
open PySem PySem.Spec PyProof.Rows L2
open LamX (Tabs ExtN)
section
variable {X : Cx} {T : List (Addr × Str)} {W : WX} {F0 H0 : Hp}
end
end DN
/-! DN25: repr of nested tuples; a law whose body is read under the outermost call alone (no repr is under way there). -/
namespace DN
open PySem PySem.Spec PyProof.Rows L2
open LamX (Tabs ExtN TabB)

section
variable {X : Cx} {T : List (Addr × Str)}
end
/-! ### a law's def, read under the outermost call -/
end DN
/-! dicts of the frame's own whose keys are nested tuples -/
namespace DN
open PySem PySem.Spec PyProof.Rows L2
open LamX (Tabs ExtN)

section
variable {X : Cx} {pins : List (Addr × Obj)} {σ : L2.St} {F H : Hp} {s : Shared}
end
/-! ### looked up, stored -/
section
variable {K : PySem.W.Frag} {F : Hp} {es : List (NestedKey × Addr × V)} {ks vs : List D} {xs : List (NestedKey × Addr × Value)} {n : NestedKey}
end
/-! ### the operations, by the heap -/
section
variable {X : Cx}
theorem DicR.length {K : PySem.W.Frag} {F : Hp} {es : List (NestedKey × Addr × V)} {ks vs : List D} (r : DicR K F es ks vs) : es.length = ks.length := by
  induction r with
  | nil => rfl
  | cons _ _ _ _ _ ih => rw [List.length_cons, List.length_cons, ih]
end
/-! ### no dict is a code object -/
section
variable {K : PySem.W.Frag} {T : List (Addr × Str)} {W : WX} {F0 H0 F H : Hp} {σ : L2.St} {ρ : Rho}
end
/-! ### by data -/
section
variable {X : Cx} {T : List (Addr × Str)} {W : WX} {F0 H0 : Hp}
end
end DN
/-! known tuples of texts: written ones, + -/
namespace DN
open PySem PySem.Spec PyProof.Rows L2
open LamX (Tabs ExtN)
section
variable {X : Cx} {T : List (Addr × Str)} {W : WX}
end
end DN
namespace LW
open PySem PySem.Spec PyProof.Rows L2 DN
open TL (numL numL_lt numL_step numL_digits numL_ne tl_num)

/-! ### figures of whole numbers -/
def figs (n : Nat) : Nat := (numL n).length
end LW
namespace LW
open PySem PySem.Spec PyProof.Rows L2 DN
open TL (numL numL_lt numL_step numL_digits numL_ne tl_num)
/-! ### texts -/
theorem s_ext {x y : Str} (h : x.cps.toList = y.cps.toList) : x = y := by
  cases x
  cases y
  simp only at h
  congr
  exact Array.toList_inj.mp h
theorem app_tl (a b : Str) : (a ++ b).cps.toList = a.cps.toList ++ b.cps.toList := by
  show (a.cps ++ b.cps).toList = _
  simp
theorem mul_si {x : Str} {n : Int} (h : n ≤ 1000000 ∧ -1000000 ≤ n ∧ x.length * n.toNat ≤ 1000000) : mulD (.str x) (.int n) = some (.str (repS x n)) := by
  show (if n ≤ 1000000 ∧ -1000000 ≤ n ∧ x.length * n.toNat ≤ 1000000 then some (D.str (repS x n)) else none) = _
  rw [if_pos h]
/-- one sign so often -/
theorem mul_one {s : String} {n : Int} (c : Nat) (h : Str.ofString s = ⟨#[c]⟩) (h1 : n ≤ 1000000) (h2 : -1000000 ≤ n) : mulD (.str (Str.ofString s)) (.int n) = some (.str (repS (Str.ofString s) n)) := mul_si ⟨h1, h2, by
  rw [h]
  show 1 * n.toNat ≤ 1000000
  omega⟩
theorem add_ss {x y : Str} (h : x.length + y.length ≤ 1000000) : addD (.str x) (.str y) = some (.str (x ++ y)) := by
  show (if x.length + y.length ≤ sizeLine then some (D.str (x ++ y)) else none) = _
  rw [if_pos (by rw [sizeLine_eq]; omega)]
end LW
namespace LW
open PySem PySem.Spec PyProof.Rows L2 DN
open TL (numL numL_lt numL_step numL_digits numL_ne tl_num)
/-! ### numbers' texts -/
def S (l : List Nat) : Str := ⟨l.toArray⟩
end LW
namespace LW
open PySem PySem.Spec PyProof.Rows L2 DN
/-! ### rounding, plainly -/
inductive Hw where | nought | more | even | away
  deriving DecidableEq
inductive Mn where | even | away | nought | up | down
  deriving DecidableEq
def Hw.s : Hw → Str
  | .nought => "nought" | .more => "more" | .even => "even" | .away => "away"
def Mn.s : Mn → Str
  | .nought => "nought" | .up => "up" | .down => "down" | .even => "even" | .away => "away"
def Mn.by : Mn → Bool → Hw
  | .up, false => .more | .up, true => .nought | .down, false => .nought | .down, true => .more | .even, _ => .even | .away, _ => .away | .nought, _ => .nought
def strip : Nat → Int → Int → Int × Int
  | 0, a, b => (a, b)
  | n + 1, a, b => if a % 10 = 0 then strip n (a / 10) (b + 1) else (a, b)
/-! the parts -/
end LW
namespace LW
open PySem PySem.Spec PyProof.Rows L2 DN
/-! ### rounding over the fractions -/
def T (p : Int) : Rat := (10 : Rat) ^ p
def vl (s : Int × Int) : Rat := (s.1 : Rat) * T s.2
/-! stripped -/
def NumOk (a b : Int) : Prop := (a = 0 ∧ b = 0) ∨ (a ≠ 0 ∧ a % 10 ≠ 0 ∧ a.natAbs < 10 ^ 8 ∧ -40 ≤ b + (figs a.natAbs : Int) - 1 ∧ b + (figs a.natAbs : Int) - 1 ≤ 40)
/-! the rounded value -/
theorem NumOk.neg {a b : Int} (h : NumOk a b) : NumOk (-a) b := by
  unfold NumOk at *
  rw [Int.natAbs_neg]
  omega
/-! ### laws of rounding -/
/-! numbers are kept -/
/-! down and up -/
/-! as functions of the value -/
end LW
namespace LW
open PySem PySem.Spec PyProof.Rows L2 DN
/-! ### a sign sought in a text -/
end LW
namespace LW
open PySem PySem.Spec PyProof.Rows L2 DN
open TL (numL numL_lt numL_step numL_digits numL_ne tl_num)
open NumText (AllDigits digitsVal)
def N__law_cell_at : List Str := ["script", "k"]
def t1__law_cell_at : Rho → SR :=
  (sret (con (.int 0)))
def g__law_cell_at : Rho → SR :=
  sseq (sif (tst (bop ltD (var 1) (cal lenD (acons (var 0) anil)))) (sret (bop ixD (var 0) (var 1))) sskip) (t1__law_cell_at)
def d__law_cell_at (ds : List D) : Res D := runB 2 g__law_cell_at ds
theorem v__law_cell_at {a0 a1 : D} : d__law_cell_at [a0, a1] = finR (g__law_cell_at [.z a0, .z a1]) := runB_eq rfl
def N__law_mixed : List Str := ["script", "k", "drawn"]
def t1__law_mixed : Rho → SR :=
  (sret (bop modD (bop addD (bop addD (bop mulD (var 2) (var 2)) (bop mulD (con (.int 7)) (var 2))) (var 1)) (con (.int 2147483629))))
def g__law_mixed : Rho → SR :=
  sseq (sasg (bop modD (bop mulD (bop addD (bop addD (callD 2 d__law_cell_at (acons (var 0) (acons (var 1) anil))) (bop mulD (con (.int 7919)) (var 1))) (con (.int 1))) (con (.int 48271))) (con (.int 2147483647))) (gn 2)) (t1__law_mixed)
def d__law_mixed (ds : List D) : Res D := runB 3 g__law_mixed ds
theorem v__law_mixed {a0 a1 : D} : d__law_mixed [a0, a1] = finR (g__law_mixed [.z a0, .z a1, .u]) := runB_eq rfl
def N__law_drawn : List Str := ["number", "k", "drawn"]
def t1__law_drawn : Rho → SR :=
  (sret (bop modD (bop addD (bop addD (bop mulD (var 2) (var 2)) (bop mulD (con (.int 3)) (var 2))) (var 1)) (con (.int 2147483629))))
def g__law_drawn : Rho → SR :=
  sseq (sasg (bop modD (bop mulD (bop addD (bop addD (var 0) (bop mulD (con (.int 104729)) (var 1))) (con (.int 17))) (con (.int 69621))) (con (.int 2147483647))) (gn 2)) (t1__law_drawn)
def d__law_drawn (ds : List D) : Res D := runB 3 g__law_drawn ds
theorem v__law_drawn {a0 a1 : D} : d__law_drawn [a0, a1] = finR (g__law_drawn [.z a0, .z a1, .u]) := runB_eq rfl
def N_is_key : List Str := ["thing"]
def t3_is_key : Rho → SR :=
  (sret (andE (bop eqD (cal lenD (acons (var 0) anil)) (con (.int 4))) (andE (bop inD (slc (var 0) pno (psm (con (.int 3)))) (mkT (acons (con (.str "put")) (acons (con (.str "get")) anil)))) (bop inD (bop ixD (var 0) (con (.int 3))) (con (.str "0123456789"))))))
def t2_is_key : Rho → SR :=
  sseq (sif (tst (bop eqD (cal lenD (acons (var 0) anil)) (con (.int 1)))) (sret (bop inD (var 0) (con (.str "0123456789")))) sskip) (t3_is_key)
def t1_is_key : Rho → SR :=
  sseq (sif (orQ (tst (bop inD (var 0) (con (.tup [.str "sign", .str "enter", .str "root", .str "swap", .str "roll", .str "last", .str "clear"])))) (orQ (tst (inT ["plus", "minus", "times", "over"] (var 0))) (tst (bop eqD (var 0) (con (.str ".")))))) (sret (con (.bl true))) sskip) (t2_is_key)
def g_is_key : Rho → SR :=
  sseq (sif (notQ (tst (cal isiD (acons (var 0) (acons (con (.ty "str")) anil))))) (sret (con (.bl false))) sskip) (t1_is_key)
def d_is_key (ds : List D) : Res D := runB 1 g_is_key ds
def N_is_line : List Str := ["thing"]
def t2_is_line : Rho → SR :=
  (sret (orE (bop inD (var 0) (con (.tup [.str "back", .str "stop", .str "less", .str "same", .str "nought"]))) (andE (bop inD (slc (var 0) pno (psm (una negD (con (.int 1))))) (con (.tup [.str "mark", .str "go", .str "call"]))) (bop inD (bop ixD (var 0) (una negD (con (.int 1)))) (con (.str "0123456789"))))))
def t1_is_line : Rho → SR :=
  sseq (sif (orQ (notQ (tst (cal isiD (acons (var 0) (acons (con (.ty "str")) anil))))) (tst (bop ltD (cal lenD (acons (var 0) anil)) (con (.int 3))))) (sret (con (.bl false))) sskip) (t2_is_line)
def g_is_line : Rho → SR :=
  sseq (sif (tst (callD 1 d_is_key (acons (var 0) anil))) (sret (con (.bl true))) sskip) (t1_is_line)
def d_is_line (ds : List D) : Res D := runB 1 g_is_line ds
def N_is_program : List Str := ["thing", "part"]
def e1_is_program : Rho → Res D :=
  (callD 1 d_is_line (acons (var 1) anil))
def g_is_program : Rho → SR :=
  (sret (andE (cal isiD (acons (var 0) (acons (con (.ty "tuple")) anil))) (andE (bop leD (cal lenD (acons (var 0) anil)) (con (.int 30))) (cal allD (acons (lcD (its (var 0)) 1 yes e1_is_program) anil)))))
def d_is_program (ds : List D) : Res D := runB 2 g_is_program ds
theorem v_is_program {a0 : D} : d_is_program [a0] = finR (g_is_program [.z a0, .u]) := runB_eq rfl
def N_written_program : List Str := ["program"]
def t1_written_program : Rho → SR :=
  (sret (met joinD (con (.str " ")) (acons (var 0) anil)))
def g_written_program : Rho → SR :=
  sseq (sif (tst (bop eqD (cal lenD (acons (var 0) anil)) (con (.int 0)))) (sret (con (.str "-"))) sskip) (t1_written_program)
def d_written_program (ds : List D) : Res D := runB 1 g_written_program ds
theorem v_written_program {a0 : D} : d_written_program [a0] = finR (g_written_program [.z a0]) := runB_eq rfl
def N__law_line : List Str := ["number", "some"]
def t2__law_line : Rho → SR :=
  (sret (bop ixD (bop addD (var 1) (mkL (acons (con (.str "get0")) (acons (con (.str "sign")) (acons (con (.str "minus")) (acons (con (.str "over")) (acons (con (.str "put1")) (acons (con (.str "get1")) (acons (con (.str "clear")) anil))))))))) (bop modD (var 0) (con (.int 32)))))
def t1__law_line : Rho → SR :=
  sseq (sasg (bop addD (var 1) (mkL (acons (con (.str "nought")) (acons (con (.str "nought")) (acons (con (.str "less")) (acons (con (.str "1")) (acons (con (.str "2")) (acons (con (.str "enter")) (acons (con (.str "plus")) (acons (con (.str "minus")) (acons (con (.str "times")) (acons (con (.str "swap")) (acons (con (.str "roll")) (acons (con (.str "put0")) anil)))))))))))))) (gn 1)) (t2__law_line)
def g__law_line : Rho → SR :=
  sseq (sasg (mkL (acons (con (.str "mark1")) (acons (con (.str "mark2")) (acons (con (.str "mark3")) (acons (con (.str "go1")) (acons (con (.str "go2")) (acons (con (.str "go3")) (acons (con (.str "call1")) (acons (con (.str "call2")) (acons (con (.str "call3")) (acons (con (.str "back")) (acons (con (.str "stop")) (acons (con (.str "less")) (acons (con (.str "same")) anil)))))))))))))) (gn 1)) (t1__law_line)
def d__law_line (ds : List D) : Res D := runB 2 g__law_line ds
theorem v__law_line {a0 : D} : d__law_line [a0] = finR (g__law_line [.z a0, .u]) := runB_eq rfl
def N__law_program : List Str := ["number", "most", "k"]
def e1__law_program : Rho → Res D :=
  (callD 1 d__law_line (acons (bop divD (callD 2 d__law_drawn (acons (var 0) (acons (var 2) anil))) (con (.int 4))) anil))
def g__law_program : Rho → SR :=
  (sret (cal tupD (acons (lcD (rng1 (acons (bop modD (var 0) (bop addD (var 1) (con (.int 1)))) anil)) 2 yes e1__law_program) anil)))
def d__law_program (ds : List D) : Res D := runB 3 g__law_program ds
theorem v__law_program {a0 a1 : D} : d__law_program [a0, a1] = finR (g__law_program [.z a0, .z a1, .u]) := runB_eq rfl
def N__law_is_line : List Str := ["thing", "plain"]
def t5__law_is_line : Rho → SR :=
  (sret (bop inD (slc (var 0) pno (psm (una negD (con (.int 1))))) (mkT (acons (con (.str "put")) (acons (con (.str "get")) (acons (con (.str "mark")) (acons (con (.str "go")) (acons (con (.str "call")) anil))))))))
def t4__law_is_line : Rho → SR :=
  sseq (sif (orQ (tst (bop eqD (var 0) (con (.str "")))) (tst (bop niD (bop ixD (var 0) (una negD (con (.int 1)))) (con (.str "0123456789"))))) (sret (con (.bl false))) sskip) (t5__law_is_line)
def t3__law_is_line : Rho → SR :=
  sseq (sif (tst (bop inD (var 0) (met splitD (var 1) (acons (con (.str " ")) anil)))) (sret (con (.bl true))) sskip) (t4__law_is_line)
def t2__law_is_line : Rho → SR :=
  sseq (sasg (bop addD (var 1) (con (.str " back stop less same nought"))) (gn 1)) (t3__law_is_line)
def t1__law_is_line : Rho → SR :=
  sseq (sasg (con (.str "0 1 2 3 4 5 6 7 8 9 . sign enter plus minus times over root swap roll last clear")) (gn 1)) (t2__law_is_line)
def g__law_is_line : Rho → SR :=
  sseq (sif (notQ (tst (cal isiD (acons (var 0) (acons (con (.ty "str")) anil))))) (sret (con (.bl false))) sskip) (t1__law_is_line)
def d__law_is_line (ds : List D) : Res D := runB 2 g__law_is_line ds
def topS (i : Nat) : Stmt := PySem.Challenge.pw_pocketpile_k30_programs.main.body.getD i (.Pass ⟨0, 0, 0, 0⟩)
abbrev s_ten : Stmt := topS 7
abbrev s_figures_of : Stmt := topS 8
abbrev s_height : Stmt := topS 9
abbrev s_taken : Stmt := topS 10
abbrev s_by_size : Stmt := topS 11
abbrev s_fitted : Stmt := topS 12
abbrev s_power_for : Stmt := topS 13
abbrev s_exact : Stmt := topS 14
abbrev s_level : Stmt := topS 16
abbrev s_of_power : Stmt := topS 17
abbrev s_plus : Stmt := topS 18
abbrev s_turned : Stmt := topS 19
abbrev s_minus : Stmt := topS 20
abbrev s_times : Stmt := topS 21
abbrev s_over : Stmt := topS 22
abbrev s_is_key : Stmt := topS 27
abbrev s_is_line : Stmt := topS 32
abbrev s_is_program : Stmt := topS 33
abbrev s_written_program : Stmt := topS 34
abbrev s__law_cell_at : Stmt := topS 36
abbrev s__law_mixed : Stmt := topS 37
abbrev s__law_drawn : Stmt := topS 38
abbrev s__law_line : Stmt := topS 39
abbrev s__law_program : Stmt := topS 40
abbrev s__law_is_line : Stmt := topS 41
abbrev s_law : Stmt := topS 42
def k_PLAIN_KEYS : List Str := ["sign", "enter", "root", "swap", "roll", "last", "clear"]
def k_OTHERS : List Str := ["back", "stop", "less", "same", "nought"]
def k_WORDS : List Str := ["mark", "go", "call"]
structure Top (w : World) (K : PySem.W.Frag) (mg : Str → Option Value) : Prop where
  f_ten : ∃ fd, FunD K "ten" "ten" (defArgs s_ten) (defBody s_ten) (defScope s_ten) [] [] (He.ga K "ten") fd
  m_ten : mg "ten" = some (.ref (He.ga K "ten"))
  f_figures_of : ∃ fd, FunD K "figures_of" "figures_of" (defArgs s_figures_of) (defBody s_figures_of) (defScope s_figures_of) [] [] (He.ga K "figures_of") fd
  m_figures_of : mg "figures_of" = some (.ref (He.ga K "figures_of"))
  f_height : ∃ fd, FunD K "height" "height" (defArgs s_height) (defBody s_height) (defScope s_height) [] [] (He.ga K "height") fd
  m_height : mg "height" = some (.ref (He.ga K "height"))
  f_taken : ∃ fd, FunD K "taken" "taken" (defArgs s_taken) (defBody s_taken) (defScope s_taken) [] [] (He.ga K "taken") fd
  m_taken : mg "taken" = some (.ref (He.ga K "taken"))
  f_by_size : ∃ fd, FunD K "by_size" "by_size" (defArgs s_by_size) (defBody s_by_size) (defScope s_by_size) [] [] (He.ga K "by_size") fd
  m_by_size : mg "by_size" = some (.ref (He.ga K "by_size"))
  f_fitted : ∃ fd, FunD K "fitted" "fitted" (defArgs s_fitted) (defBody s_fitted) (defScope s_fitted) [] [] (He.ga K "fitted") fd
  m_fitted : mg "fitted" = some (.ref (He.ga K "fitted"))
  f_power_for : ∃ fd, FunD K "power_for" "power_for" (defArgs s_power_for) (defBody s_power_for) (defScope s_power_for) [] [] (He.ga K "power_for") fd
  m_power_for : mg "power_for" = some (.ref (He.ga K "power_for"))
  f_exact : ∃ fd, FunD K "exact" "exact" (defArgs s_exact) (defBody s_exact) (defScope s_exact) [] [] (He.ga K "exact") fd
  m_exact : mg "exact" = some (.ref (He.ga K "exact"))
  f_level : ∃ fd, FunD K "level" "level" (defArgs s_level) (defBody s_level) (defScope s_level) [] [] (He.ga K "level") fd
  m_level : mg "level" = some (.ref (He.ga K "level"))
  f_of_power : ∃ fd, FunD K "of_power" "of_power" (defArgs s_of_power) (defBody s_of_power) (defScope s_of_power) [] [] (He.ga K "of_power") fd
  m_of_power : mg "of_power" = some (.ref (He.ga K "of_power"))
  f_plus : ∃ fd, FunD K "plus" "plus" (defArgs s_plus) (defBody s_plus) (defScope s_plus) [] [] (He.ga K "plus") fd
  m_plus : mg "plus" = some (.ref (He.ga K "plus"))
  f_turned : ∃ fd, FunD K "turned" "turned" (defArgs s_turned) (defBody s_turned) (defScope s_turned) [] [] (He.ga K "turned") fd
  m_turned : mg "turned" = some (.ref (He.ga K "turned"))
  f_minus : ∃ fd, FunD K "minus" "minus" (defArgs s_minus) (defBody s_minus) (defScope s_minus) [] [] (He.ga K "minus") fd
  m_minus : mg "minus" = some (.ref (He.ga K "minus"))
  f_times : ∃ fd, FunD K "times" "times" (defArgs s_times) (defBody s_times) (defScope s_times) [] [] (He.ga K "times") fd
  m_times : mg "times" = some (.ref (He.ga K "times"))
  f_over : ∃ fd, FunD K "over" "over" (defArgs s_over) (defBody s_over) (defScope s_over) [] [] (He.ga K "over") fd
  m_over : mg "over" = some (.ref (He.ga K "over"))
  f_is_key : ∃ fd, FunD K "is_key" "is_key" (defArgs s_is_key) (defBody s_is_key) (defScope s_is_key) [] [] (He.ga K "is_key") fd
  m_is_key : mg "is_key" = some (.ref (He.ga K "is_key"))
  f_is_line : ∃ fd, FunD K "is_line" "is_line" (defArgs s_is_line) (defBody s_is_line) (defScope s_is_line) [] [] (He.ga K "is_line") fd
  m_is_line : mg "is_line" = some (.ref (He.ga K "is_line"))
  f_is_program : ∃ fd, FunD K "is_program" "is_program" (defArgs s_is_program) (defBody s_is_program) (defScope s_is_program) [] [] (He.ga K "is_program") fd
  m_is_program : mg "is_program" = some (.ref (He.ga K "is_program"))
  f_written_program : ∃ fd, FunD K "written_program" "written_program" (defArgs s_written_program) (defBody s_written_program) (defScope s_written_program) [] [] (He.ga K "written_program") fd
  m_written_program : mg "written_program" = some (.ref (He.ga K "written_program"))
  f__law_cell_at : ∃ fd, FunD K "_law_cell_at" "_law_cell_at" (defArgs s__law_cell_at) (defBody s__law_cell_at) (defScope s__law_cell_at) [] [] (He.ga K "_law_cell_at") fd
  m__law_cell_at : mg "_law_cell_at" = some (.ref (He.ga K "_law_cell_at"))
  f__law_mixed : ∃ fd, FunD K "_law_mixed" "_law_mixed" (defArgs s__law_mixed) (defBody s__law_mixed) (defScope s__law_mixed) [] [] (He.ga K "_law_mixed") fd
  m__law_mixed : mg "_law_mixed" = some (.ref (He.ga K "_law_mixed"))
  f__law_drawn : ∃ fd, FunD K "_law_drawn" "_law_drawn" (defArgs s__law_drawn) (defBody s__law_drawn) (defScope s__law_drawn) [] [] (He.ga K "_law_drawn") fd
  m__law_drawn : mg "_law_drawn" = some (.ref (He.ga K "_law_drawn"))
  f__law_line : ∃ fd, FunD K "_law_line" "_law_line" (defArgs s__law_line) (defBody s__law_line) (defScope s__law_line) [] [] (He.ga K "_law_line") fd
  m__law_line : mg "_law_line" = some (.ref (He.ga K "_law_line"))
  f__law_program : ∃ fd, FunD K "_law_program" "_law_program" (defArgs s__law_program) (defBody s__law_program) (defScope s__law_program) [] [] (He.ga K "_law_program") fd
  m__law_program : mg "_law_program" = some (.ref (He.ga K "_law_program"))
  f__law_is_line : ∃ fd, FunD K "_law_is_line" "_law_is_line" (defArgs s__law_is_line) (defBody s__law_is_line) (defScope s__law_is_line) [] [] (He.ga K "_law_is_line") fd
  m__law_is_line : mg "_law_is_line" = some (.ref (He.ga K "_law_is_line"))
  f_law : ∃ fd, FunD K "law" "law" (defArgs s_law) (defBody s_law) (defScope s_law) [] [] (He.ga K "law") fd
  m_law : mg "law" = some (.ref (He.ga K "law"))
  b_int : mg "int" = none
  b_abs : mg "abs" = none
  b_str : mg "str" = none
  b_len : mg "len" = none
  b_max : mg "max" = none
  b_min : mg "min" = none
  b_isinstance : mg "isinstance" = none
  b_tuple : mg "tuple" = none
  b_all : mg "all" = none
  b_range : mg "range" = none
  b_list : mg "list" = none
  b_bool : mg "bool" = none
  c_HIGHEST : ∃ t, mg "HIGHEST" = some (.int (40) t)
  c_MOST : ∃ t, mg "MOST" = some (.int (8) t)
  c_MOST_LINES : ∃ t, mg "MOST_LINES" = some (.int (30) t)
  c_FIGURES : ∃ t, mg "FIGURES" = some (.str "0123456789" t)
  m_PLAIN_KEYS : mg "PLAIN_KEYS" = some (.ref (He.ga K "PLAIN_KEYS"))
  c_PLAIN_KEYS : ∀ H, SqT K H (He.ga K "PLAIN_KEYS") (k_PLAIN_KEYS.map V.str)
  m_OTHERS : mg "OTHERS" = some (.ref (He.ga K "OTHERS"))
  c_OTHERS : ∀ H, SqT K H (He.ga K "OTHERS") (k_OTHERS.map V.str)
  m_WORDS : mg "WORDS" = some (.ref (He.ga K "WORDS"))
  c_WORDS : ∀ H, SqT K H (He.ga K "WORDS") (k_WORDS.map V.str)
  d_DEEDS : DicF w K mg "DEEDS" [("plus", "plus"), ("minus", "minus"), ("times", "times"), ("over", "over")]
  e_TooGreat : ExcN K mg "TooGreat"
  e_NoDeed : ExcN K mg "NoDeed"
section
variable {P : Program} {w : World} {K : PySem.W.Frag} {mg : Str → Option Value} {base : Heap} {T : List (Addr × Str)}
theorem sc_is_key : FnScope N_is_key ["thing"] (defScope s_is_key) := ⟨rfl, rfl, rfl, by decide +kernel, rfl, by decide +kernel, by decide +kernel⟩
theorem ok_is_key (Z : Top w K mg) : OkD P w K mg base T 8 "is_key" 1 d_is_key := by
  obtain ⟨fd, Fd⟩ := Z.f_is_key
  refine ⟨⟨fd, ["thing"], fn_ok Fd sc_is_key rfl fun cdv A outer s0 H0 E F0 hr => ?_, Fd.bindsN (ps := ["thing"]) (fun _ _ _ _ _ _ us hl => match us, hl with | [_], _ => rfl)⟩, Fd.kp, Z.m_is_key⟩
  have tk : Takes (cxOf (L2.CX P w) P w K mg base N_is_key "is_key" (defScope s_is_key) (He.ga K "is_key") cdv A outer s0 H0 E) (WofE E) := takes_of rfl rfl rfl rfl
  have po : PassesOwn (model P w) (cxOf (L2.CX P w) P w K mg base N_is_key "is_key" (defScope s_is_key) (He.ga K "is_key") cdv A outer s0 H0 E).A (cxOf (L2.CX P w) P w K mg base N_is_key "is_key" (defScope s_is_key) (He.ga K "is_key") cdv A outer s0 H0 E).env (cxOf (L2.CX P w) P w K mg base N_is_key "is_key" (defScope s_is_key) (He.ga K "is_key") cdv A outer s0 H0 E).xe := passes_of (X := (cxOf (L2.CX P w) P w K mg base N_is_key "is_key" (defScope s_is_key) (He.ga K "is_key") cdv A outer s0 H0 E)) rfl
  have hu := hr.units
  exact (s_cons (s_if (q_not (q_val (e_callB c_isi rfl Z.b_isinstance bt_isinstance (a_cons (e_var (pv 0)) (a_cons (e_ty Z.b_str bt_str rfl) a_nil))))) (s_one (s_ret e_bl)) s_nil)
    (s_cons (s_if (q_w (w_or (q_cmp (o_in hu) (e_var (pv 0)) (e_gtup (zs := ["sign", "enter", "root", "swap", "roll", "last", "clear"]) Z.m_PLAIN_KEYS Z.c_PLAIN_KEYS rfl) (by rfl)) (w_or (q_inT Z.d_DEEDS rfl (e_var (pv 0))) (w_or1 (q_cmp (o_eq hu) (e_var (pv 0)) e_str (nomark _)))))) (s_one (s_ret e_bl)) s_nil)
    (s_cons (s_if (q_cmp (o_eq hu) (e_callB c_len rfl Z.b_len bt_len (a_cons (e_var (pv 0)) a_nil)) e_int (nomark _)) (s_one (s_ret (e_cmp (o_in hu) (e_var (pv 0)) (e_gstr Z.c_FIGURES rfl) (by rfl)))) s_nil)
    (s_one (s_ret (e_and (e_cmp (o_eq hu) (e_callB c_len rfl Z.b_len bt_len (a_cons (e_var (pv 0)) a_nil)) e_int (nomark _)) (e_and (e_cmp (o_in hu) (e_sl (e_var (pv 0)) p_none (p_some e_int)) (e_tup (a_cons e_str (a_cons e_str a_nil))) (by rfl)) (e_one (e_cmp (o_in hu) (e_ix (e_var (pv 0)) e_int) (e_gstr Z.c_FIGURES rfl) (by rfl))))))))))
theorem sc_is_line : FnScope N_is_line ["thing"] (defScope s_is_line) := ⟨rfl, rfl, rfl, by decide +kernel, rfl, by decide +kernel, by decide +kernel⟩
theorem ok_is_line (Z : Top w K mg) : OkD P w K mg base T 9 "is_line" 1 d_is_line := by
  obtain ⟨fd, Fd⟩ := Z.f_is_line
  refine ⟨⟨fd, ["thing"], fn_ok Fd sc_is_line rfl fun cdv A outer s0 H0 E F0 hr => ?_, Fd.bindsN (ps := ["thing"]) (fun _ _ _ _ _ _ us hl => match us, hl with | [_], _ => rfl)⟩, Fd.kp, Z.m_is_line⟩
  have tk : Takes (cxOf (L2.CX P w) P w K mg base N_is_line "is_line" (defScope s_is_line) (He.ga K "is_line") cdv A outer s0 H0 E) (WofE E) := takes_of rfl rfl rfl rfl
  have po : PassesOwn (model P w) (cxOf (L2.CX P w) P w K mg base N_is_line "is_line" (defScope s_is_line) (He.ga K "is_line") cdv A outer s0 H0 E).A (cxOf (L2.CX P w) P w K mg base N_is_line "is_line" (defScope s_is_line) (He.ga K "is_line") cdv A outer s0 H0 E).env (cxOf (L2.CX P w) P w K mg base N_is_line "is_line" (defScope s_is_line) (He.ga K "is_line") cdv A outer s0 H0 E).xe := passes_of (X := (cxOf (L2.CX P w) P w K mg base N_is_line "is_line" (defScope s_is_line) (He.ga K "is_line") cdv A outer s0 H0 E)) rfl
  have hu := hr.units
  exact (s_cons (s_if (q_val (e_call (ok_is_key Z) hr tk rfl (a_cons (e_var (pv 0)) a_nil))) (s_one (s_ret e_bl)) s_nil)
    (s_cons (s_if (q_w (w_or (q_not (q_val (e_callB c_isi rfl Z.b_isinstance bt_isinstance (a_cons (e_var (pv 0)) (a_cons (e_ty Z.b_str bt_str rfl) a_nil))))) (w_or1 (q_cmp o_lt (e_callB c_len rfl Z.b_len bt_len (a_cons (e_var (pv 0)) a_nil)) e_int (nomark _))))) (s_one (s_ret e_bl)) s_nil)
    (s_one (s_ret (e_or (e_cmp (o_in hu) (e_var (pv 0)) (e_gtup (zs := ["back", "stop", "less", "same", "nought"]) Z.m_OTHERS Z.c_OTHERS rfl) (by rfl)) (e_one (e_and (e_cmp (o_in hu) (e_sl (e_var (pv 0)) p_none (p_some (e_una u_neg e_int))) (e_gtup (zs := ["mark", "go", "call"]) Z.m_WORDS Z.c_WORDS rfl) (by rfl)) (e_one (e_cmp (o_in hu) (e_ix (e_var (pv 0)) (e_una u_neg e_int)) (e_gstr Z.c_FIGURES rfl) (by rfl))))))))))
theorem sc_is_program : FnScope N_is_program ["thing"] (defScope s_is_program) := ⟨rfl, rfl, rfl, by decide +kernel, rfl, by decide +kernel, by decide +kernel⟩
theorem ok_is_program (Z : Top w K mg) : OkD P w K mg base T 10 "is_program" 1 d_is_program := by
  obtain ⟨fd, Fd⟩ := Z.f_is_program
  refine ⟨⟨fd, ["thing"], fn_ok Fd sc_is_program rfl fun cdv A outer s0 H0 E F0 hr => ?_, Fd.bindsN (ps := ["thing"]) (fun _ _ _ _ _ _ us hl => match us, hl with | [_], _ => rfl)⟩, Fd.kp, Z.m_is_program⟩
  have tk : Takes (cxOf (L2.CX P w) P w K mg base N_is_program "is_program" (defScope s_is_program) (He.ga K "is_program") cdv A outer s0 H0 E) (WofE E) := takes_of rfl rfl rfl rfl
  have po : PassesOwn (model P w) (cxOf (L2.CX P w) P w K mg base N_is_program "is_program" (defScope s_is_program) (He.ga K "is_program") cdv A outer s0 H0 E).A (cxOf (L2.CX P w) P w K mg base N_is_program "is_program" (defScope s_is_program) (He.ga K "is_program") cdv A outer s0 H0 E).env (cxOf (L2.CX P w) P w K mg base N_is_program "is_program" (defScope s_is_program) (He.ga K "is_program") cdv A outer s0 H0 E).xe := passes_of (X := (cxOf (L2.CX P w) P w K mg base N_is_program "is_program" (defScope s_is_program) (He.ga K "is_program") cdv A outer s0 H0 E)) rfl
  have hu := hr.units
  exact (s_one (s_ret (e_and (e_callB c_isi rfl Z.b_isinstance bt_isinstance (a_cons (e_var (pv 0)) (a_cons (e_ty Z.b_tuple bt_tuple rfl) a_nil))) (e_and (e_cmp o_le (e_callB c_len rfl Z.b_len bt_len (a_cons (e_var (pv 0)) a_nil)) (e_gint Z.c_MOST_LINES rfl) (nomark _)) (e_one (e_callB (c_all rfl) rfl Z.b_all bt_all (a_cons (e_lc (x := "part") (i := 1) rfl sc_is_program.nd (i_any (e_var (pv 0))) (blkOk_by (N := N_is_program) (sc := defScope s_is_program) (by decide +kernel)) (fun _ _ _ _ _ => pg_name (i := 1) sc_is_program.nd rfl (Or.inl rfl)) (fun _ _ _ _ _ => ts_nil) (fun _ _ _ _ _ => (e_call (ok_is_line Z) hr L2.takes0 rfl (a_cons (e_var (pv 1)) a_nil)))) a_nil)))))))
theorem sc_written_program : FnScope N_written_program ["program"] (defScope s_written_program) := ⟨rfl, rfl, rfl, by decide +kernel, rfl, by decide +kernel, by decide +kernel⟩
theorem ok_written_program (Z : Top w K mg) : OkD P w K mg base T 1 "written_program" 1 d_written_program := by
  obtain ⟨fd, Fd⟩ := Z.f_written_program
  refine ⟨⟨fd, ["program"], fn_ok Fd sc_written_program rfl fun cdv A outer s0 H0 E F0 hr => ?_, Fd.bindsN (ps := ["program"]) (fun _ _ _ _ _ _ us hl => match us, hl with | [_], _ => rfl)⟩, Fd.kp, Z.m_written_program⟩
  have tk : Takes (cxOf (L2.CX P w) P w K mg base N_written_program "written_program" (defScope s_written_program) (He.ga K "written_program") cdv A outer s0 H0 E) (WofE E) := takes_of rfl rfl rfl rfl
  have po : PassesOwn (model P w) (cxOf (L2.CX P w) P w K mg base N_written_program "written_program" (defScope s_written_program) (He.ga K "written_program") cdv A outer s0 H0 E).A (cxOf (L2.CX P w) P w K mg base N_written_program "written_program" (defScope s_written_program) (He.ga K "written_program") cdv A outer s0 H0 E).env (cxOf (L2.CX P w) P w K mg base N_written_program "written_program" (defScope s_written_program) (He.ga K "written_program") cdv A outer s0 H0 E).xe := passes_of (X := (cxOf (L2.CX P w) P w K mg base N_written_program "written_program" (defScope s_written_program) (He.ga K "written_program") cdv A outer s0 H0 E)) rfl
  have hu := hr.units
  exact (s_cons (s_if (q_cmp (o_eq hu) (e_callB c_len rfl Z.b_len bt_len (a_cons (e_var (pv 0)) a_nil)) e_int (nomark _)) (s_one (s_ret e_str)) s_nil)
    (s_one (s_ret (e_met PySem.F.plainAttrs_str PySem.F.slot_str_join PySem.F.type_str_join m_join e_str (a_cons (e_var (pv 0)) a_nil)))))
theorem sc__law_cell_at : FnScope N__law_cell_at ["script", "k"] (defScope s__law_cell_at) := ⟨rfl, rfl, rfl, by decide +kernel, rfl, by decide +kernel, by decide +kernel⟩
theorem ok__law_cell_at (Z : Top w K mg) : OkD P w K mg base T 1 "_law_cell_at" 2 d__law_cell_at := by
  obtain ⟨fd, Fd⟩ := Z.f__law_cell_at
  refine ⟨⟨fd, ["script", "k"], fn_ok Fd sc__law_cell_at rfl fun cdv A outer s0 H0 E F0 hr => ?_, Fd.bindsN (ps := ["script", "k"]) (fun _ _ _ _ _ _ us hl => match us, hl with | [_, _], _ => rfl)⟩, Fd.kp, Z.m__law_cell_at⟩
  have tk : Takes (cxOf (L2.CX P w) P w K mg base N__law_cell_at "_law_cell_at" (defScope s__law_cell_at) (He.ga K "_law_cell_at") cdv A outer s0 H0 E) (WofE E) := takes_of rfl rfl rfl rfl
  have po : PassesOwn (model P w) (cxOf (L2.CX P w) P w K mg base N__law_cell_at "_law_cell_at" (defScope s__law_cell_at) (He.ga K "_law_cell_at") cdv A outer s0 H0 E).A (cxOf (L2.CX P w) P w K mg base N__law_cell_at "_law_cell_at" (defScope s__law_cell_at) (He.ga K "_law_cell_at") cdv A outer s0 H0 E).env (cxOf (L2.CX P w) P w K mg base N__law_cell_at "_law_cell_at" (defScope s__law_cell_at) (He.ga K "_law_cell_at") cdv A outer s0 H0 E).xe := passes_of (X := (cxOf (L2.CX P w) P w K mg base N__law_cell_at "_law_cell_at" (defScope s__law_cell_at) (He.ga K "_law_cell_at") cdv A outer s0 H0 E)) rfl
  have hu := hr.units
  exact (s_cons (s_if (q_cmp o_lt (e_var (pv 1)) (e_callB c_len rfl Z.b_len bt_len (a_cons (e_var (pv 0)) a_nil)) (nomark _)) (s_one (s_ret (e_ix (e_var (pv 0)) (e_var (pv 1))))) s_nil)
    (s_one (s_ret e_int)))
theorem sc__law_mixed : FnScope N__law_mixed ["script", "k"] (defScope s__law_mixed) := ⟨rfl, rfl, rfl, by decide +kernel, rfl, by decide +kernel, by decide +kernel⟩
theorem ok__law_mixed (Z : Top w K mg) : OkD P w K mg base T 2 "_law_mixed" 2 d__law_mixed := by
  obtain ⟨fd, Fd⟩ := Z.f__law_mixed
  refine ⟨⟨fd, ["script", "k"], fn_ok Fd sc__law_mixed rfl fun cdv A outer s0 H0 E F0 hr => ?_, Fd.bindsN (ps := ["script", "k"]) (fun _ _ _ _ _ _ us hl => match us, hl with | [_, _], _ => rfl)⟩, Fd.kp, Z.m__law_mixed⟩
  have tk : Takes (cxOf (L2.CX P w) P w K mg base N__law_mixed "_law_mixed" (defScope s__law_mixed) (He.ga K "_law_mixed") cdv A outer s0 H0 E) (WofE E) := takes_of rfl rfl rfl rfl
  have po : PassesOwn (model P w) (cxOf (L2.CX P w) P w K mg base N__law_mixed "_law_mixed" (defScope s__law_mixed) (He.ga K "_law_mixed") cdv A outer s0 H0 E).A (cxOf (L2.CX P w) P w K mg base N__law_mixed "_law_mixed" (defScope s__law_mixed) (He.ga K "_law_mixed") cdv A outer s0 H0 E).env (cxOf (L2.CX P w) P w K mg base N__law_mixed "_law_mixed" (defScope s__law_mixed) (He.ga K "_law_mixed") cdv A outer s0 H0 E).xe := passes_of (X := (cxOf (L2.CX P w) P w K mg base N__law_mixed "_law_mixed" (defScope s__law_mixed) (He.ga K "_law_mixed") cdv A outer s0 H0 E)) rfl
  have hu := hr.units
  exact (s_cons (s_asg (e_bin o_mod (e_bin o_mul (e_bin o_add (e_bin o_add (e_call (ok__law_cell_at Z) hr tk rfl (a_cons (e_var (pv 0)) (a_cons (e_var (pv 1)) a_nil))) (e_bin o_mul e_int (e_var (pv 1)))) e_int) e_int) e_int) (g_name (pg_name (i := 2) sc__law_mixed.nd rfl (Or.inl rfl))))
    (s_one (s_ret (e_bin o_mod (e_bin o_add (e_bin o_add (e_bin o_mul (e_var (pv 2)) (e_var (pv 2))) (e_bin o_mul e_int (e_var (pv 2)))) (e_var (pv 1))) e_int))))
theorem sc__law_drawn : FnScope N__law_drawn ["number", "k"] (defScope s__law_drawn) := ⟨rfl, rfl, rfl, by decide +kernel, rfl, by decide +kernel, by decide +kernel⟩
theorem ok__law_drawn (Z : Top w K mg) : OkD P w K mg base T 1 "_law_drawn" 2 d__law_drawn := by
  obtain ⟨fd, Fd⟩ := Z.f__law_drawn
  refine ⟨⟨fd, ["number", "k"], fn_ok Fd sc__law_drawn rfl fun cdv A outer s0 H0 E F0 hr => ?_, Fd.bindsN (ps := ["number", "k"]) (fun _ _ _ _ _ _ us hl => match us, hl with | [_, _], _ => rfl)⟩, Fd.kp, Z.m__law_drawn⟩
  have tk : Takes (cxOf (L2.CX P w) P w K mg base N__law_drawn "_law_drawn" (defScope s__law_drawn) (He.ga K "_law_drawn") cdv A outer s0 H0 E) (WofE E) := takes_of rfl rfl rfl rfl
  have po : PassesOwn (model P w) (cxOf (L2.CX P w) P w K mg base N__law_drawn "_law_drawn" (defScope s__law_drawn) (He.ga K "_law_drawn") cdv A outer s0 H0 E).A (cxOf (L2.CX P w) P w K mg base N__law_drawn "_law_drawn" (defScope s__law_drawn) (He.ga K "_law_drawn") cdv A outer s0 H0 E).env (cxOf (L2.CX P w) P w K mg base N__law_drawn "_law_drawn" (defScope s__law_drawn) (He.ga K "_law_drawn") cdv A outer s0 H0 E).xe := passes_of (X := (cxOf (L2.CX P w) P w K mg base N__law_drawn "_law_drawn" (defScope s__law_drawn) (He.ga K "_law_drawn") cdv A outer s0 H0 E)) rfl
  have hu := hr.units
  exact (s_cons (s_asg (e_bin o_mod (e_bin o_mul (e_bin o_add (e_bin o_add (e_var (pv 0)) (e_bin o_mul e_int (e_var (pv 1)))) e_int) e_int) e_int) (g_name (pg_name (i := 2) sc__law_drawn.nd rfl (Or.inl rfl))))
    (s_one (s_ret (e_bin o_mod (e_bin o_add (e_bin o_add (e_bin o_mul (e_var (pv 2)) (e_var (pv 2))) (e_bin o_mul e_int (e_var (pv 2)))) (e_var (pv 1))) e_int))))
theorem sc__law_line : FnScope N__law_line ["number"] (defScope s__law_line) := ⟨rfl, rfl, rfl, by decide +kernel, rfl, by decide +kernel, by decide +kernel⟩
theorem ok__law_line (Z : Top w K mg) : OkD P w K mg base T 1 "_law_line" 1 d__law_line := by
  obtain ⟨fd, Fd⟩ := Z.f__law_line
  refine ⟨⟨fd, ["number"], fn_ok Fd sc__law_line rfl fun cdv A outer s0 H0 E F0 hr => ?_, Fd.bindsN (ps := ["number"]) (fun _ _ _ _ _ _ us hl => match us, hl with | [_], _ => rfl)⟩, Fd.kp, Z.m__law_line⟩
  have tk : Takes (cxOf (L2.CX P w) P w K mg base N__law_line "_law_line" (defScope s__law_line) (He.ga K "_law_line") cdv A outer s0 H0 E) (WofE E) := takes_of rfl rfl rfl rfl
  have po : PassesOwn (model P w) (cxOf (L2.CX P w) P w K mg base N__law_line "_law_line" (defScope s__law_line) (He.ga K "_law_line") cdv A outer s0 H0 E).A (cxOf (L2.CX P w) P w K mg base N__law_line "_law_line" (defScope s__law_line) (He.ga K "_law_line") cdv A outer s0 H0 E).env (cxOf (L2.CX P w) P w K mg base N__law_line "_law_line" (defScope s__law_line) (He.ga K "_law_line") cdv A outer s0 H0 E).xe := passes_of (X := (cxOf (L2.CX P w) P w K mg base N__law_line "_law_line" (defScope s__law_line) (He.ga K "_law_line") cdv A outer s0 H0 E)) rfl
  have hu := hr.units
  exact (s_cons (s_asg (e_lst (a_cons e_str (a_cons e_str (a_cons e_str (a_cons e_str (a_cons e_str (a_cons e_str (a_cons e_str (a_cons e_str (a_cons e_str (a_cons e_str (a_cons e_str (a_cons e_str (a_cons e_str a_nil)))))))))))))) (g_name (pg_name (i := 1) sc__law_line.nd rfl (Or.inl rfl))))
    (s_cons (s_asg (e_bin o_add (e_var (pv 1)) (e_lst (a_cons e_str (a_cons e_str (a_cons e_str (a_cons e_str (a_cons e_str (a_cons e_str (a_cons e_str (a_cons e_str (a_cons e_str (a_cons e_str (a_cons e_str (a_cons e_str a_nil)))))))))))))) (g_name (pg_name (i := 1) sc__law_line.nd rfl (Or.inl rfl))))
    (s_one (s_ret (e_ix (e_bin o_add (e_var (pv 1)) (e_lst (a_cons e_str (a_cons e_str (a_cons e_str (a_cons e_str (a_cons e_str (a_cons e_str (a_cons e_str a_nil))))))))) (e_bin o_mod (e_var (pv 0)) e_int))))))
theorem sc__law_program : FnScope N__law_program ["number", "most"] (defScope s__law_program) := ⟨rfl, rfl, rfl, by decide +kernel, rfl, by decide +kernel, by decide +kernel⟩
theorem ok__law_program (Z : Top w K mg) : OkD P w K mg base T 2 "_law_program" 2 d__law_program := by
  obtain ⟨fd, Fd⟩ := Z.f__law_program
  refine ⟨⟨fd, ["number", "most"], fn_ok Fd sc__law_program rfl fun cdv A outer s0 H0 E F0 hr => ?_, Fd.bindsN (ps := ["number", "most"]) (fun _ _ _ _ _ _ us hl => match us, hl with | [_, _], _ => rfl)⟩, Fd.kp, Z.m__law_program⟩
  have tk : Takes (cxOf (L2.CX P w) P w K mg base N__law_program "_law_program" (defScope s__law_program) (He.ga K "_law_program") cdv A outer s0 H0 E) (WofE E) := takes_of rfl rfl rfl rfl
  have po : PassesOwn (model P w) (cxOf (L2.CX P w) P w K mg base N__law_program "_law_program" (defScope s__law_program) (He.ga K "_law_program") cdv A outer s0 H0 E).A (cxOf (L2.CX P w) P w K mg base N__law_program "_law_program" (defScope s__law_program) (He.ga K "_law_program") cdv A outer s0 H0 E).env (cxOf (L2.CX P w) P w K mg base N__law_program "_law_program" (defScope s__law_program) (He.ga K "_law_program") cdv A outer s0 H0 E).xe := passes_of (X := (cxOf (L2.CX P w) P w K mg base N__law_program "_law_program" (defScope s__law_program) (He.ga K "_law_program") cdv A outer s0 H0 E)) rfl
  have hu := hr.units
  exact (s_one (s_ret (e_callTy c_tup rfl Z.b_tuple bt_tuple (a_cons (e_lc (x := "k") (i := 2) rfl sc__law_program.nd (i_rng1 rfl Z.b_range (a_cons (e_bin o_mod (e_var (pv 0)) (e_bin o_add (e_var (pv 1)) e_int)) a_nil)) (blkOk_by (N := N__law_program) (sc := defScope s__law_program) (by decide +kernel)) (fun _ _ _ _ _ => pg_name (i := 2) sc__law_program.nd rfl (Or.inl rfl)) (fun _ _ _ _ _ => ts_nil) (fun _ _ _ _ _ => (e_call (ok__law_line Z) hr L2.takes0 rfl (a_cons (e_bin o_div (e_call (ok__law_drawn Z) hr L2.takes0 rfl (a_cons (e_var (pv 0)) (a_cons (e_var (pv 2)) a_nil))) e_int) a_nil)))) a_nil))))
theorem sc__law_is_line : FnScope N__law_is_line ["thing"] (defScope s__law_is_line) := ⟨rfl, rfl, rfl, by decide +kernel, rfl, by decide +kernel, by decide +kernel⟩
theorem ok__law_is_line (Z : Top w K mg) : OkD P w K mg base T 1 "_law_is_line" 1 d__law_is_line := by
  obtain ⟨fd, Fd⟩ := Z.f__law_is_line
  refine ⟨⟨fd, ["thing"], fn_ok Fd sc__law_is_line rfl fun cdv A outer s0 H0 E F0 hr => ?_, Fd.bindsN (ps := ["thing"]) (fun _ _ _ _ _ _ us hl => match us, hl with | [_], _ => rfl)⟩, Fd.kp, Z.m__law_is_line⟩
  have tk : Takes (cxOf (L2.CX P w) P w K mg base N__law_is_line "_law_is_line" (defScope s__law_is_line) (He.ga K "_law_is_line") cdv A outer s0 H0 E) (WofE E) := takes_of rfl rfl rfl rfl
  have po : PassesOwn (model P w) (cxOf (L2.CX P w) P w K mg base N__law_is_line "_law_is_line" (defScope s__law_is_line) (He.ga K "_law_is_line") cdv A outer s0 H0 E).A (cxOf (L2.CX P w) P w K mg base N__law_is_line "_law_is_line" (defScope s__law_is_line) (He.ga K "_law_is_line") cdv A outer s0 H0 E).env (cxOf (L2.CX P w) P w K mg base N__law_is_line "_law_is_line" (defScope s__law_is_line) (He.ga K "_law_is_line") cdv A outer s0 H0 E).xe := passes_of (X := (cxOf (L2.CX P w) P w K mg base N__law_is_line "_law_is_line" (defScope s__law_is_line) (He.ga K "_law_is_line") cdv A outer s0 H0 E)) rfl
  have hu := hr.units
  exact (s_cons (s_if (q_not (q_val (e_callB c_isi rfl Z.b_isinstance bt_isinstance (a_cons (e_var (pv 0)) (a_cons (e_ty Z.b_str bt_str rfl) a_nil))))) (s_one (s_ret e_bl)) s_nil)
    (s_cons (s_asg e_str (g_name (pg_name (i := 1) sc__law_is_line.nd rfl (Or.inl rfl))))
    (s_cons (s_asg (e_bin o_add (e_var (pv 1)) e_str) (g_name (pg_name (i := 1) sc__law_is_line.nd rfl (Or.inl rfl))))
    (s_cons (s_if (q_cmp (o_in hu) (e_var (pv 0)) (e_met PySem.F.plainAttrs_str PySem.F.slot_str_split PySem.F.type_str_split m_split (e_var (pv 1)) (a_cons e_str a_nil)) (by rfl)) (s_one (s_ret e_bl)) s_nil)
    (s_cons (s_if (q_w (w_or (q_cmp (o_eq hu) (e_var (pv 0)) e_str (nomark _)) (w_or1 (q_cmp (o_ni hu) (e_ix (e_var (pv 0)) (e_una u_neg e_int)) e_str (by rfl))))) (s_one (s_ret e_bl)) s_nil)
    (s_one (s_ret (e_cmp (o_in hu) (e_sl (e_var (pv 0)) p_none (p_some (e_una u_neg e_int))) (e_tup (a_cons e_str (a_cons e_str (a_cons e_str (a_cons e_str (a_cons e_str a_nil)))))) (by rfl)))))))))
def N_law : List Str := ["script", "number", "thing", "some", "at", "due", "part", "found"]
def e1_law : Rho → Res D :=
  (var 6)
def t9_law : Rho → SR :=
  (sret (orE (notE (var 5)) (bop eqD (callD 1 d_written_program (acons (var 2) anil)) (bop addD (met joinD (con (.str " ")) (acons (var 2) anil)) (bop mulD (con (.str "-")) (cal intD (acons (bop eqD (var 2) (mkT anil)) anil)))))))
def t8_law : Rho → SR :=
  sseq (sif (orQ (notQ (tst (cal isiD (acons (var 7) (acons (con (.ty "bool")) anil))))) (tst (bop neD (var 7) (var 5)))) (sret (con (.bl false))) sskip) (t9_law)
def t7_law : Rho → SR :=
  sseq (sasg (callD 1 d_is_program (acons (var 2) anil)) (gn 7)) (t8_law)
def t6_law : Rho → SR :=
  sseq (sasg (andE (cal isiD (acons (var 2) (acons (con (.ty "tuple")) anil))) (andE (bop leD (cal lenD (acons (var 2) anil)) (con (.int 30))) (bop eqD (lcD (its (var 2)) 6 (notQ (tst (callD 1 d__law_is_line (acons (var 6) anil)))) e1_law) (mkL anil)))) (gn 5)) (t7_law)
def t5_law : Rho → SR :=
  sseq (sif (tst (bop eqD (bop modD (bop divD (var 1) (con (.int 4096))) (con (.int 16))) (con (.int 1)))) (sasg (cal listD (acons (var 2) anil)) (gn 2)) sskip) (t6_law)
def t4_law : Rho → SR :=
  sseq (sif (tst (bop eqD (bop modD (var 1) (con (.int 2))) (con (.int 1)))) (sasg (bop addD (bop addD (slc (var 2) pno (psm (var 4))) (mkT (acons (bop ixD (var 3) (bop modD (bop divD (var 1) (con (.int 2))) (con (.int 16)))) anil))) (slc (var 2) (psm (bop addD (var 4) (con (.int 1)))) pno)) (gn 2)) sskip) (t5_law)
def t3_law : Rho → SR :=
  sseq (sasg (bop modD (bop divD (var 1) (con (.int 32))) (bop addD (cal lenD (acons (var 2) anil)) (con (.int 1)))) (gn 4)) (t4_law)
def t2_law : Rho → SR :=
  sseq (sasg (mkL (acons (con (.str "root")) (acons (con (.str "last")) (acons (con (.str "put9")) (acons (con (.str "go")) (acons (con (.str "mark")) (acons (con (.str "mark10")) (acons (con (.str "callx")) (acons (con (.str "call0")) (acons (con (.str "x")) (acons (con (.str "")) (acons (con (.str "10")) (acons (con (.str ".")) (acons (con (.int 1)) (acons (con .non) (acons (mkT anil) (acons (mkT (acons (con (.str "1")) anil)) anil))))))))))))))))) (gn 3)) (t3_law)
def t1_law : Rho → SR :=
  sseq (sasg (callD 2 d__law_program (acons (callD 2 d__law_mixed (acons (var 0) (acons (con (.int 1)) anil))) (acons (con (.int 31)) anil))) (gn 2)) (t2_law)
def g_law : Rho → SR :=
  sseq (sasg (callD 2 d__law_mixed (acons (var 0) (acons (con (.int 0)) anil))) (gn 1)) (t1_law)
def d_law (ds : List D) : Res D := runB 8 g_law ds
theorem v_law {a0 : D} : d_law [a0] = finR (g_law [.z a0, .u, .u, .u, .u, .u, .u, .u]) := runB_eq rfl
theorem sc_law : FnScope N_law ["script"] (defScope s_law) := ⟨rfl, rfl, rfl, by decide +kernel, rfl, by decide +kernel, by decide +kernel⟩
theorem law_fn (Z : Top w K mg) {fd : FuncData} (Fd : FunD K "law" "law" (defArgs s_law) (defBody s_law) (defScope s_law) [] [] (He.ga K "law") fd) : FnOk P w K mg base (L2.CX P w) 11 (He.ga K "law") fd ["script"] (spD K T 1 d_law) := by
  refine fn_ok Fd sc_law rfl fun cdv A outer s0 H0 E F0 hr => ?_
  have tk : Takes (cxOf (L2.CX P w) P w K mg base N_law "law" (defScope s_law) (He.ga K "law") cdv A outer s0 H0 E) (WofE E) := takes_of rfl rfl rfl rfl
  have po : PassesOwn (model P w) (cxOf (L2.CX P w) P w K mg base N_law "law" (defScope s_law) (He.ga K "law") cdv A outer s0 H0 E).A (cxOf (L2.CX P w) P w K mg base N_law "law" (defScope s_law) (He.ga K "law") cdv A outer s0 H0 E).env (cxOf (L2.CX P w) P w K mg base N_law "law" (defScope s_law) (He.ga K "law") cdv A outer s0 H0 E).xe := passes_of (X := (cxOf (L2.CX P w) P w K mg base N_law "law" (defScope s_law) (He.ga K "law") cdv A outer s0 H0 E)) rfl
  have hu := hr.units
  exact (s_cons (s_asg (e_call (ok__law_mixed Z) hr tk rfl (a_cons (e_var (pv 0)) (a_cons e_int a_nil))) (g_name (pg_name (i := 1) sc_law.nd rfl (Or.inl rfl))))
    (s_cons (s_asg (e_call (ok__law_program Z) hr tk rfl (a_cons (e_call (ok__law_mixed Z) hr tk rfl (a_cons (e_var (pv 0)) (a_cons e_int a_nil))) (a_cons e_int a_nil))) (g_name (pg_name (i := 2) sc_law.nd rfl (Or.inl rfl))))
    (s_cons (s_asg (e_lst (a_cons e_str (a_cons e_str (a_cons e_str (a_cons e_str (a_cons e_str (a_cons e_str (a_cons e_str (a_cons e_str (a_cons e_str (a_cons e_str (a_cons e_str (a_cons e_str (a_cons e_int (a_cons e_non (a_cons (e_tup a_nil) (a_cons (e_tup (a_cons e_str a_nil)) a_nil))))))))))))))))) (g_name (pg_name (i := 3) sc_law.nd rfl (Or.inl rfl))))
    (s_cons (s_asg (e_bin o_mod (e_bin o_div (e_var (pv 1)) e_int) (e_bin o_add (e_callB c_len rfl Z.b_len bt_len (a_cons (e_var (pv 2)) a_nil)) e_int)) (g_name (pg_name (i := 4) sc_law.nd rfl (Or.inl rfl))))
    (s_cons (s_if (q_cmp (o_eq hu) (e_bin o_mod (e_var (pv 1)) e_int) e_int (nomark _)) (s_one (s_asg (e_bin o_add (e_bin o_add (e_sl (e_var (pv 2)) p_none (p_some (e_var (pv 4)))) (e_tup (a_cons (e_ix (e_var (pv 3)) (e_bin o_mod (e_bin o_div (e_var (pv 1)) e_int) e_int)) a_nil))) (e_sl (e_var (pv 2)) (p_some (e_bin o_add (e_var (pv 4)) e_int)) p_none)) (g_name (pg_name (i := 2) sc_law.nd rfl (Or.inl rfl))))) s_nil)
    (s_cons (s_if (q_cmp (o_eq hu) (e_bin o_mod (e_bin o_div (e_var (pv 1)) e_int) e_int) e_int (nomark _)) (s_one (s_asg (e_callTy (c_list rfl) rfl Z.b_list bt_list (a_cons (e_var (pv 2)) a_nil)) (g_name (pg_name (i := 2) sc_law.nd rfl (Or.inl rfl))))) s_nil)
    (s_cons (s_asg (e_and (e_callB c_isi rfl Z.b_isinstance bt_isinstance (a_cons (e_var (pv 2)) (a_cons (e_ty Z.b_tuple bt_tuple rfl) a_nil))) (e_and (e_cmp o_le (e_callB c_len rfl Z.b_len bt_len (a_cons (e_var (pv 2)) a_nil)) e_int (nomark _)) (e_one (e_cmp (o_eq hu) (e_lc (x := "part") (i := 6) rfl sc_law.nd (i_any (e_var (pv 2))) (blkOk_by (N := N_law) (sc := defScope s_law) (by decide +kernel)) (fun _ _ _ _ _ => pg_name (i := 6) sc_law.nd rfl (Or.inl rfl)) (fun _ _ _ _ _ => (ts_one (q_not (q_val (e_call (ok__law_is_line Z) hr L2.takes0 rfl (a_cons (e_var (pv 6)) a_nil)))))) (fun _ _ _ _ _ => (e_var (pv 6)))) (e_lst a_nil) (nomark _))))) (g_name (pg_name (i := 5) sc_law.nd rfl (Or.inl rfl))))
    (s_cons (s_asg (e_call (ok_is_program Z) hr tk rfl (a_cons (e_var (pv 2)) a_nil)) (g_name (pg_name (i := 7) sc_law.nd rfl (Or.inl rfl))))
    (s_cons (s_if (q_w (w_or (q_not (q_val (e_callB c_isi rfl Z.b_isinstance bt_isinstance (a_cons (e_var (pv 7)) (a_cons (e_ty Z.b_bool bt_bool rfl) a_nil))))) (w_or1 (q_cmp (o_ne hu) (e_var (pv 7)) (e_var (pv 5)) (nomark _))))) (s_one (s_ret e_bl)) s_nil)
    (s_one (s_ret (e_or (e_not (e_var (pv 5))) (e_one (e_cmp (o_eq hu) (e_call (ok_written_program Z) hr tk rfl (a_cons (e_var (pv 2)) a_nil)) (e_bin o_add (e_met PySem.F.plainAttrs_str PySem.F.slot_str_join PySem.F.type_str_join m_join e_str (a_cons (e_var (pv 2)) a_nil)) (e_bin o_mul e_str (e_callTy c_int rfl Z.b_int bt_int (a_cons (e_cmp (o_eq hu) (e_var (pv 2)) (e_tup a_nil) (nomark _)) a_nil)))) (nomark _)))))))))))))))
end
local macro_rules | `(tactic| walk_at "ev") => `(tactic| simp -implicitDefEqProofs (disch := first | omega | (simp only [List.length_cons, List.length_nil]; omega)) only [mkTR_ok, mkLR_ok, ix_tm, ix_lm, ix_t0, ix_t1, ix_t2, ix_t3, ix_t4, ix_t5, ix_t6, ix_t7, ix_l0, ix_l1, ix_l2, ix_l3, ix_l4, ix_l5, ix_l6, ix_l7, bin_def, una_def, cal_def, acons_def, anil_def, con_def, callD_def, tst_def, sseq_def, sret_def, sasg_def, sif_def, sskip_def, sraise_def, andQ_def, orQ_def, notQ_def, andE_def, orE_def, notE_def, mkT_def, mkL_def, slc_def, psm_def, pno_def, sfor_def, chn_def, var_zero, var_succ, app2_ok, app1_ok, appL_ok, consR_ok, ofO_some, call0, call1, call2, call3, call4, call5, tstR_ok, seqR_nx, seqR_rt, seqR_ex, retR_ok, retR_ex, asgR_n, asgR_ex, asgR_2, asgR_2L, asgR_3, ifR_t, ifR_f, finR_rt, finR_nx, finR_ex, andR_t, andR_f, orR_t, orR_f, notR_ok, andER_t, andER_f, orER_t, orER_f, notER_ok, psmR_ok, slcR_ok, forR_ok, chn_le, chn_lt, add_ii, sub_ii, neg_i, lt_ii, le_ii, gt_ii, ge_ii, eq_ii, ne_ii, eq_ss, ne_ss, eq_bb, ne_bb, mul_l, mul_r, div_s, mod_p, len_t, len_l, len_a, abs_i, max_ii, min_ii, int_i, int_b, int_t, int_f, List.set_cons_zero, List.set_cons_succ, Bool.not_true, Bool.not_false, decide_true, decide_false, sown_def, ownRR_ok, frz_lst, frz_z, frz_u, frz_succ, sfrz_def, bor_def, borQ_def, flat_i, flat_s, flat_b, flat_n, own_zero, own_succ, sapp_def, sput_def, ixO_def])
local macro_rules | `(tactic| simp?! [$ls,*]) => `(tactic| simp -implicitDefEqProofs (disch := first | omega | (simp only [List.length_cons, List.length_nil]; omega)) only [mkTR_ok, mkLR_ok, ix_tm, ix_lm, ix_t0, ix_t1, ix_t2, ix_t3, ix_t4, ix_t5, ix_t6, ix_t7, ix_l0, ix_l1, ix_l2, ix_l3, ix_l4, ix_l5, ix_l6, ix_l7, bin_def, una_def, cal_def, acons_def, anil_def, con_def, callD_def, tst_def, sseq_def, sret_def, sasg_def, sif_def, sskip_def, sraise_def, andQ_def, orQ_def, notQ_def, andE_def, orE_def, notE_def, mkT_def, mkL_def, slc_def, psm_def, pno_def, sfor_def, chn_def, var_zero, var_succ, app2_ok, app1_ok, appL_ok, consR_ok, ofO_some, call0, call1, call2, call3, call4, call5, tstR_ok, seqR_nx, seqR_rt, seqR_ex, retR_ok, retR_ex, asgR_n, asgR_ex, asgR_2, asgR_2L, asgR_3, ifR_t, ifR_f, finR_rt, finR_nx, finR_ex, andR_t, andR_f, orR_t, orR_f, notR_ok, andER_t, andER_f, orER_t, orER_f, notER_ok, psmR_ok, slcR_ok, forR_ok, chn_le, chn_lt, add_ii, sub_ii, neg_i, lt_ii, le_ii, gt_ii, ge_ii, eq_ii, ne_ii, eq_ss, ne_ss, eq_bb, ne_bb, mul_l, mul_r, div_s, mod_p, len_t, len_l, len_a, abs_i, max_ii, min_ii, int_i, int_b, int_t, int_f, List.set_cons_zero, List.set_cons_succ, Bool.not_true, Bool.not_false, decide_true, decide_false, sown_def, ownRR_ok, frz_lst, frz_z, frz_u, frz_succ, sfrz_def, bor_def, borQ_def, flat_i, flat_s, flat_b, flat_n, own_zero, own_succ, sapp_def, sput_def, ixO_def, $ls,*])
theorem x_cell {ns : List Int} {k : Int} (h : 0 ≤ k) : ∃ c, d__law_cell_at [.arr ns, .int k] = .ok (.int c) := by
  by_cases hk : k < ns.length
  · have hi : ∃ c, ixD (.arr ns) (.int k) = some (.int c) := by
      refine ⟨ns.getD k.toNat 0, ?_⟩
      show (atI ns k).map D.int = _
      unfold atI ixN
      rw [if_pos h, if_pos hk]
      show (ns[k.toNat]?).map D.int = _
      rw [List.getElem?_eq_getElem (by omega), List.getD_eq_getElem?_getD, List.getElem?_eq_getElem (by omega)]
      rfl
    obtain ⟨c, hc⟩ := hi
    exact ⟨c, by simp?! [v__law_cell_at, g__law_cell_at, t1__law_cell_at, hk, hc]⟩
  · exact ⟨0, by simp?! [v__law_cell_at, g__law_cell_at, t1__law_cell_at, hk]⟩
theorem x_mixed {ns : List Int} {k : Int} (h : 0 ≤ k) (h2 : k < 1000) : ∃ m, d__law_mixed [.arr ns, .int k] = .ok (.int m) ∧ 0 ≤ m ∧ m < 2147483629 := by
  obtain ⟨c, hc⟩ := x_cell (ns := ns) h
  simp?! [v__law_mixed, g__law_mixed, t1__law_mixed, hc]
  exact ⟨_, rfl, Int.emod_nonneg _ (by decide), Int.emod_lt_of_pos _ (by decide)⟩
theorem x_drawn {n k : Int} (h : 0 ≤ k) (h2 : k < 1000) : ∃ m, d__law_drawn [.int n, .int k] = .ok (.int m) ∧ 0 ≤ m ∧ m < 2147483629 := by
  simp?! [v__law_drawn, g__law_drawn, t1__law_drawn]
  exact ⟨_, rfl, Int.emod_nonneg _ (by decide), Int.emod_lt_of_pos _ (by decide)⟩
theorem sel_mem {xs : List D} {n : Nat} (h : n < xs.length) : xs.getD n .non ∈ xs := by
  rw [List.getD_eq_getElem?_getD, List.getElem?_eq_getElem h]
  exact List.getElem_mem h
/-! the law's own numbers -/
/-! heights -/
/-! _law_ten -/
theorem rng1_eq {f : Rho → Res (List D)} {ρ : Rho} {j : Int} (h : f ρ = .ok [.int j]) (h1 : 0 ≤ j) (h2 : j < 5000) : rng1 f ρ = .ok (rngD 0 j.toNat) := by
  unfold rng1
  rw [h]
  simp only [Res.bind]
  rw [if_pos ⟨by omega, by omega⟩]
theorem rngD_len {i : Int} {n : Nat} : (rngD i n).length = n := by unfold rngD; rw [List.length_map, List.length_range]
/-! exact and what it calls -/
/-! the law's exact -/
/-! manners -/
/-! comparing, comprehensions -/
theorem comp_f {g : Tg} {t : Rho → Res Bool} {e : Rho → Res D} {ρ ρ1 : Rho} {d : D} {ds : List D} (h : g ρ d = some ρ1) (h2 : t ρ1 = .ok false) : compD g t e ρ (d :: ds) = compD g t e ρ ds := by
  rw [compD, h]
  simp only
  rw [h2]
  rfl
theorem comp_t {g : Tg} {t : Rho → Res Bool} {e : Rho → Res D} {ρ ρ1 : Rho} {d y : D} {ds ys : List D} (h : g ρ d = some ρ1) (h2 : t ρ1 = .ok true) (h3 : e ρ1 = .ok y) (h4 : compD g t e ρ ds = .ok ys) : compD g t e ρ (d :: ds) = .ok (y :: ys) := by
  rw [compD, h]
  simp only
  rw [h2]
  simp only [if_true]
  rw [h3]
  simp only
  rw [h4]
  rfl
theorem lc_eq {f : Rho → Res (List D)} {i : Nat} {t : Rho → Res Bool} {e : Rho → Res D} {ρ : Rho} {ds ys : List D} (h : f ρ = .ok ds) (hl : ds.length ≤ 1000000) (h2 : compD (gn i) t e (ρ.set i .u) ds = .ok ys) : lcD f i t e ρ = .ok (.lst ys) := by
  unfold lcD
  rw [h]
  simp only [Res.bind]
  rw [if_pos (by rw [sizeLine_eq]; omega), h2]
/-! plus, minus, times, over, less, and the law's deed -/
def NumB (a b : Int) : Prop := a.natAbs < 10 ^ 8 ∧ -48 ≤ b ∧ b ≤ 40
/-! the law's -/
/-! the deeds by value -/
theorem NumB.neg {a b : Int} (h : NumB a b) : NumB (-a) b := ⟨by rw [Int.natAbs_neg]; exact h.1, h.2⟩
/-! ranges -/
abbrev numD (s : Int × Int) : D := .tup [.int s.1, .int s.2]
/-! drawn ranges -/
/-! intervals -/
/-! entries -/
def tidyZ (a b : Int) : Int × Int := if a = 0 then (0, 0) else strip 5000 a b
structure Ent where
  neg : Bool
  ah : List Nat
  pt : Bool
  be : List Nat
def Ent.L (e : Ent) : List Nat := (if e.neg = true then [45] else []) ++ e.ah ++ (if e.pt = true then 46 :: e.be else [])
def Ent.val (e : Ent) : Int := if e.neg = true then -((digitsVal (e.ah ++ e.be) : Nat) : Int) else ((digitsVal (e.ah ++ e.be) : Nat) : Int)
def Ent.num (e : Ent) : Int × Int := tidyZ e.val (-(e.be.length : Int))
/-! keys and states -/
inductive Dd where | plus | minus | times | over
  deriving DecidableEq
inductive Ky where | fig (i : Fin 10) | dot | sign | enter | dd (w : Dd) | root | swap | roll | last | clear | put (i : Fin 10) | get (i : Fin 10)
  deriving DecidableEq
def Dd.s : Dd → Str
  | .plus => "plus" | .minus => "minus" | .times => "times" | .over => "over"
def Ky.s : Ky → Str
  | .fig i => S [48 + i.val] | .dot => "." | .sign => "sign" | .enter => "enter" | .dd w => w.s | .root => "root" | .swap => "swap" | .roll => "roll" | .last => "last" | .clear => "clear" | .put i => S [112, 117, 116, 48 + i.val] | .get i => S [103, 101, 116, 48 + i.val]
structure Sta where
  m : Mn
  x : Int × Int
  y : Int × Int
  z : Int × Int
  t : Int × Int
  l : Int × Int
  bx : List (Int × Int)
  en : Option Ent
  lf : Bool
  od : Option Bool
def enD : Option Ent → D
  | none => .non
  | some e => .str (S e.L)
def odD : Option Bool → D
  | none => .non
  | some false => .str "deed"
  | some true => .str "great"
def Sta.D (s : Sta) : D := .tup [.str s.m.s, .tup [numD s.x, numD s.y, numD s.z, numD s.t], numD s.l, .tup (s.bx.map numD), enD s.en, .bl s.lf, odD s.od]
/-! the keys that look at no text and no value -/
section
variable {m l B en x y z t b0 b1 b2 b3 b4 b5 b6 b7 b8 b9 P lf : D}
end
/-! figures and points -/
section
variable {m l B x y z t f : D} {en : D}
theorem ns {s : Str} : isN (.str s) .non = some (.bl false) := rfl
end
/-! root -/
/-! deeds by key -/
section
variable {m l B x y z t f : D} {en : D}
end
/-! roots -/
/-! a key pressed -/
/-! rows -/
theorem its_T {f : Rho → Res D} {ds : List D} {ρ : Rho} (h : f ρ = .ok (.tup ds)) : its f ρ = .ok ds := by
  unfold its
  rw [h]
  rfl
/-! written -/
/-! lists -/
theorem rngD_mem {n : Nat} {d : D} (h : d ∈ rngD 0 n) : ∃ j : Nat, j < n ∧ d = .int (j : Int) := by
  unfold rngD at h
  obtain ⟨j, hj, rfl⟩ := List.mem_map.mp h
  exact ⟨j, List.mem_range.mp hj, by simp⟩
theorem add_tt {a b : List D} (h : a.length + b.length ≤ 1000) : addD (.tup a) (.tup b) = some (.tup (a ++ b)) := by
  show (if a.length + b.length ≤ sizeLine then some (D.tup (a ++ b)) else none) = _
  rw [if_pos (by rw [sizeLine_eq]; omega)]
theorem sl_hiT {α : Type} {f : α → D} {l : List α} {i : Int} (h0 : 0 ≤ i) (h1 : i ≤ l.length) (h2 : l.length ≤ 1000) : slD (.tup (l.map f)) none (some i) = some (.tup ((l.take i.toNat).map f)) := by
  have hl : (l.map f).length = l.length := List.length_map f
  show some (D.tup (DN.cutD (l.map f) none (some i))) = _
  unfold DN.cutD
  rw [HT.sIx_none, hl]
  obtain ⟨n, rfl⟩ := Int.eq_ofNat_of_zero_le h0
  rw [show HT.sIx l.length l.length (some (n : Int)) = min n l.length from HT.sIx_nat _ _ n]
  rw [List.drop_zero, Nat.sub_zero, Int.toNat_natCast, List.map_take]
  congr 2
  rw [Nat.min_eq_left (by omega)]
/-! drawn keys -/
/-! states are plain -/
/-! what is shown -/
/-! ### k30 -/
def lnL : List D := [.str "mark1", .str "mark2", .str "mark3", .str "go1", .str "go2", .str "go3", .str "call1", .str "call2", .str "call3", .str "back", .str "stop", .str "less", .str "same", .str "nought", .str "nought", .str "less", .str "1", .str "2", .str "enter", .str "plus", .str "minus", .str "times", .str "swap", .str "roll", .str "put0", .str "get0", .str "sign", .str "minus", .str "over", .str "put1", .str "get1", .str "clear"]
def lnO : List D := [.str "root", .str "last", .str "put9", .str "go", .str "mark", .str "mark10", .str "callx", .str "call0", .str "x", .str "", .str "10", .str ".", .int 1, .non, .tup [], .tup [.str "1"]]
def lnB (d : D) : Bool := match d_is_line [d] with
  | .ok (.bl b) => b
  | _ => false
structure LnOk (d : D) : Prop where
  a : d_is_line [d] = .ok (.bl (lnB d))
  b : d__law_is_line [d] = .ok (.bl (lnB d))
  p : DN.plain 5 d = true
  s : lnB d = false ∨ ∃ x : Str, d = .str x ∧ x.length ≤ 10
theorem ln_str (x : Str) (h1 : d_is_line [.str x] = .ok (.bl (lnB (.str x)))) (h2 : d__law_is_line [.str x] = .ok (.bl (lnB (.str x)))) (h3 : PyData.strOk x = true) (h4 : x.length ≤ 10) : LnOk (.str x) := ⟨h1, h2, h3, .inr ⟨x, rfl, h4⟩⟩
theorem ln_L : ∀ d ∈ lnL, LnOk d := by
  intro d hd
  simp only [lnL, List.mem_cons, List.not_mem_nil, or_false] at hd
  rcases hd with h | h | h | h | h | h | h | h | h | h | h | h | h | h | h | h | h | h | h | h | h | h | h | h | h | h | h | h | h | h | h | h <;> subst h <;> exact ln_str _ (by kernel_rfl) (by kernel_rfl) (by decide +kernel) (by decide +kernel)
theorem ln_O : ∀ d ∈ lnO, LnOk d := by
  intro d hd
  simp only [lnO, List.mem_cons, List.not_mem_nil, or_false] at hd
  rcases hd with h | h | h | h | h | h | h | h | h | h | h | h | h | h | h | h <;> subst h <;> first
    | exact ln_str _ (by kernel_rfl) (by kernel_rfl) (by decide +kernel) (by decide +kernel)
    | exact ⟨by kernel_rfl, by kernel_rfl, by decide +kernel, .inl (by decide +kernel)⟩
theorem line_list (n : Int) : g__law_line [.z (.int n), .u] = t2__law_line [.z (.int n), .z (.lst (lnL.take 25))] := by kernel_rfl
theorem line_last (n : Int) : bop addD (var 1) (mkL (acons (con (.str "get0")) (acons (con (.str "sign")) (acons (con (.str "minus")) (acons (con (.str "over")) (acons (con (.str "put1")) (acons (con (.str "get1")) (acons (con (.str "clear")) anil)))))))) [.z (.int n), .z (.lst (lnL.take 25))] = .ok (.lst lnL) := by kernel_rfl
theorem x_lline {n : Int} : ∃ d, d ∈ lnL ∧ d__law_line [.int n] = .ok d := by
  have md : bop modD (var 0) (con (.int 32)) [.z (.int n), .z (.lst (lnL.take 25))] = .ok (.int (n % 32)) := by simp?! []
  have hn : (n % 32).toNat < lnL.length := by have : lnL.length = 32 := rfl; omega
  refine ⟨lnL.getD (n % 32).toNat .non, sel_mem hn, ?_⟩
  rw [v__law_line, line_list]
  unfold t2__law_line
  rw [sret_def, bin_def, line_last, md, app2_ok, ix_lm (by decide), ofO_some, retR_ok, finR_rt]
theorem comp_mem {P : D → Prop} {i : Nat} {e : Rho → Res D} {ρ : Rho} : ∀ (ds : List D), (∀ d ∈ ds, ∃ a, P a ∧ e (ρ.set i (.z d)) = .ok a) → ∃ as : List D, as.length = ds.length ∧ (∀ a ∈ as, P a) ∧ compD (gn i) yes e ρ ds = .ok as
  | [], _ => ⟨[], rfl, fun _ h => (by cases h), rfl⟩
  | d :: ds, h => by
    obtain ⟨a, pa, ha⟩ := h d List.mem_cons_self
    obtain ⟨as, h1, h2, h3⟩ := comp_mem (P := P) (i := i) (e := e) (ρ := ρ) ds fun x hx => h x (List.mem_cons_of_mem _ hx)
    exact ⟨a :: as, by simp [h1], fun x hx => by
      rcases List.mem_cons.mp hx with rfl | hx
      · exact pa
      · exact h2 x hx, comp_t (show gn i ρ d = some (ρ.set i (.z d)) from rfl) rfl ha h3⟩
theorem x_lprog {n most : Int} (h0 : 0 ≤ n) (hm : 0 ≤ most) (hm2 : most < 100) : ∃ ds : List D, (∀ d ∈ ds, d ∈ lnL) ∧ (ds.length : Int) ≤ most ∧ d__law_program [.int n, .int most] = .ok (.tup ds) := by
  have hp : (0 : Int) < most + 1 := by omega
  have md := mod_p (i := n) hp
  have k0 : 0 ≤ n % (most + 1) := Int.emod_nonneg _ (by omega)
  have k1 : n % (most + 1) < most + 1 := Int.emod_lt_of_pos _ hp
  have q : acons (bop modD (var 0) (bop addD (var 1) (con (.int 1)))) anil [.z (.int n), .z (.int most), .u] = .ok [.int (n % (most + 1))] := by simp?! [md]
  have e := rng1_eq q k0 (by omega)
  obtain ⟨ds, l1, l2, l3⟩ := comp_mem (P := fun d => d ∈ lnL) (i := 2) (e := e1__law_program) (ρ := [.z (.int n), .z (.int most), .u]) (rngD 0 (n % (most + 1)).toNat) (by
    intro d hd
    obtain ⟨j, hj, rfl⟩ := rngD_mem hd
    obtain ⟨dr, d1, d2, d3⟩ := x_drawn (n := n) (k := (j : Int)) (by omega) (by omega)
    obtain ⟨ln, hk, hl⟩ := x_lline (n := dr / 4)
    exact ⟨ln, hk, by simp?! [e1__law_program, d1, hl]⟩)
  rw [rngD_len] at l1
  refine ⟨ds, l2, by omega, ?_⟩
  have lc := lc_eq (t := yes) (e := e1__law_program) (i := 2) e (by rw [rngD_len]; omega) l3
  have tp : tupD [.lst ds] = some (.tup ds) := rfl
  simp?! [v__law_program, g__law_program, lc, tp]
theorem all_map : ∀ (ds : List D), allD [.lst (ds.map fun d => D.bl (lnB d))] = some (.bl (ds.all lnB)) := by
  have key : ∀ ds : List D, DN.allB (ds.map fun d => D.bl (lnB d)) = some (ds.map lnB) := by
    intro ds
    induction ds with
    | nil => rfl
    | cons d ds ih =>
      show (DN.allB (ds.map fun d => D.bl (lnB d))).map (lnB d :: ·) = _
      rw [ih]
      rfl
  intro ds
  show (DN.allB (ds.map fun d => D.bl (lnB d))).map _ = _
  rw [key]
  simp
theorem comp_ln {t : D} : ∀ (ds : List D), (∀ d ∈ ds, LnOk d) → compD (gn 1) yes e1_is_program [.z t, .u] ds = .ok (ds.map fun d => D.bl (lnB d))
  | [], _ => rfl
  | d :: ds, h => by
    have hd := h d List.mem_cons_self
    have ih := comp_ln (t := t) ds fun x hx => h x (List.mem_cons_of_mem _ hx)
    exact comp_t (ρ1 := [.z t, .z d]) rfl rfl (by simp?! [e1_is_program, hd.a]) ih
theorem comp_nl {a b c d e f h : En} : ∀ (ds : List D), (∀ d ∈ ds, LnOk d) → compD (gn 6) (notQ (tst (callD 1 d__law_is_line (acons (var 6) anil)))) e1_law [a, b, c, d, e, f, .u, h] ds = .ok (ds.filter fun d => !lnB d)
  | [], _ => rfl
  | x :: ds, hh => by
    have hd := hh x List.mem_cons_self
    have ih := comp_nl (a := a) (b := b) (c := c) (d := d) (e := e) (f := f) (h := h) ds fun x hx => hh x (List.mem_cons_of_mem _ hx)
    have ht : notQ (tst (callD 1 d__law_is_line (acons (var 6) anil))) [a, b, c, d, e, f, .z x, h] = .ok (!lnB x) := by simp?! [hd.b]
    cases q : lnB x with
    | true =>
      rw [q] at ht
      rw [comp_f (ρ1 := [a, b, c, d, e, f, .z x, h]) rfl ht, ih, List.filter_cons, if_neg (by simp [q])]
    | false =>
      rw [q] at ht
      rw [comp_t (ρ1 := [a, b, c, d, e, f, .z x, h]) (y := x) rfl ht rfl ih, List.filter_cons, if_pos (by simp [q])]
theorem plains_of {n : Nat} : ∀ {ds : List D}, (∀ d ∈ ds, DN.plain n d = true) → DN.plains n ds = true
  | [], _ => rfl
  | d :: ds, h => by
    show (DN.plain n d && DN.plains n ds) = true
    rw [h d List.mem_cons_self, plains_of fun x hx => h x (List.mem_cons_of_mem _ hx)]
    rfl
mutual
theorem plain_up : ∀ (n m : Nat) (d : D), n ≤ m → DN.plain n d = true → DN.plain m d = true
  | _, _, .non, _, _ => by unfold DN.plain; rfl
  | _, _, .bl _, _, _ => by unfold DN.plain; rfl
  | _, _, .int _, _, _ => by unfold DN.plain; rfl
  | n, m, .str x, _, h => by
    have : PyData.strOk x = true := by cases n <;> exact h
    cases m <;> exact this
  | n, m, .lst xs, hm, h => by
    cases n with
    | zero => cases h
    | succ n =>
      cases m with
      | zero => omega
      | succ m => exact plains_up n m xs (by omega) h
  | n, m, .tup xs, hm, h => by
    cases n with
    | zero => cases h
    | succ n =>
      cases m with
      | zero => omega
      | succ m => exact plains_up n m xs (by omega) h
  | n, _, .fn _, _, h => by cases n <;> cases h
  | n, _, .ty _, _, h => by cases n <;> cases h
  | n, _, .dK _, _, h => by cases n <;> cases h
  | n, _, .dT _, _, h => by cases n <;> cases h
  | n, _, .arr _, _, h => by cases n <;> cases h
theorem plains_up : ∀ (n m : Nat) (ds : List D), n ≤ m → DN.plains n ds = true → DN.plains m ds = true
  | _, _, [], _, _ => by unfold DN.plains; rfl
  | n, m, d :: ds, hm, h => by
    have h : (DN.plain n d && DN.plains n ds) = true := h
    rw [Bool.and_eq_true] at h
    show (DN.plain m d && DN.plains m ds) = true
    rw [plain_up n m d hm h.1, plains_up n m ds hm h.2]
    rfl
end

theorem eqds_nil : ∀ (xs : List D), DN.eqds xs [] = xs.isEmpty
  | [] => rfl
  | _ :: _ => rfl
theorem filt_all : ∀ (ds : List D), (ds.filter fun d => !lnB d).isEmpty = ds.all lnB
  | [] => rfl
  | d :: ds => by
    rw [List.filter_cons, List.all_cons]
    cases q : lnB d with
    | true => simp [filt_all ds]
    | false => simp
theorem strs_of : ∀ (ds : List D), (∀ d ∈ ds, LnOk d) → ds.all lnB = true → ∃ ys : List Str, DN.strsO ds = some ys ∧ ys.length = ds.length ∧ (ys.map (·.length)).sum ≤ 10 * ds.length ∧ ds = ys.map D.str
  | [], _, _ => ⟨[], rfl, rfl, by simp, rfl⟩
  | d :: ds, h, ha => by
    rw [List.all_cons, Bool.and_eq_true] at ha
    obtain ⟨ys, h1, h2, h3, h4⟩ := strs_of ds (fun x hx => h x (List.mem_cons_of_mem _ hx)) ha.2
    rcases (h d List.mem_cons_self).s with q | ⟨x, rfl, hx⟩
    · rw [ha.1] at q; cases q
    · refine ⟨x :: ys, ?_, by simp [h2], ?_, by rw [h4]; rfl⟩
      · show (DN.strsO ds).map (x :: ·) = _
        rw [h1]
        rfl
      · simp only [List.map_cons, List.sum_cons, List.length_cons]
        omega
theorem joinT {ds : List D} {ys : List Str} (h : DN.strsO ds = some ys) (h2 : (ys.map (·.length)).sum ≤ 10 * ds.length) (h3 : ys.length = ds.length) (h4 : ds.length ≤ 100) : joinD (.str " ") [.tup ds] = some (.str (Txt.join " " ys)) := by
  show (DN.strsO ds).bind (fun ys => if (ys.map (·.length)).sum + ys.length * (Str.ofString " ").length ≤ 16777216 then some (D.str (Txt.join " " ys)) else none) = _
  rw [h]
  show (if (ys.map (·.length)).sum + ys.length * (Str.ofString " ").length ≤ 16777216 then some (D.str (Txt.join " " ys)) else none) = _
  have : (Str.ofString " ").length = 1 := by decide +kernel
  rw [this, if_pos (by omega)]
theorem kit_tt : kitB "tuple" "tuple" = some true := by decide +kernel
theorem kit_lt : kitB "list" "tuple" = some false := by decide +kernel
theorem kit_bb : kitB "bool" "bool" = some true := by decide +kernel
theorem s_app_nil (x : Str) : x ++ Str.ofString "" = x := by
  refine s_ext ?_
  rw [app_tl]
  have : (Str.ofString "").cps.toList = [] := by decide +kernel
  rw [this, List.append_nil]
theorem join_len (ys : List Str) : (Txt.join " " ys).length ≤ (ys.map (·.length)).sum + ys.length := by
  have := StrLaws.join_length_le (Str.ofString " ") ys
  have e : (Str.ofString " ").length = 1 := by decide +kernel
  rw [e, Nat.mul_one] at this
  show (Builtin.Str.glued " " ys).length ≤ _
  rw [StrLaws.glued_eq_join]
  exact this
/-- from the thing on -/
theorem tail30 {a b c d : En} {ds : List D} (hl : ds.length ≤ 80) (h : ∀ x ∈ ds, LnOk x) : finR (t6_law [a, b, .z (.tup ds), c, d, .u, .u, .u]) = .ok (.bl true) := by
  have it := its_T (f := var 2) (ds := ds) (ρ := [a, b, .z (.tup ds), c, d, .u, .u, .u]) rfl
  have lc := lc_eq (i := 6) (t := notQ (tst (callD 1 d__law_is_line (acons (var 6) anil)))) (e := e1_law) it (by omega) (comp_nl ds h)
  have it2 := its_T (f := var 0) (ds := ds) (ρ := [.z (.tup ds), .u]) rfl
  have lc2 := lc_eq (i := 1) (t := yes) (e := e1_is_program) it2 (by omega) (comp_ln (t := .tup ds) ds h)
  have pl : DN.plains 5 ds = true := plains_of fun d hd => (h d hd).p
  have plf : DN.plains 5 (ds.filter fun d => !lnB d) = true := plains_of fun d hd => (h d (List.mem_filter.mp hd).1).p
  have eqN : eqD (.lst (ds.filter fun d => !lnB d)) (.lst []) = some (.bl (ds.all lnB)) := by
    unfold eqD eqOk
    have p1 : DN.plain 64 (.lst (ds.filter fun d => !lnB d)) = true := plains_up 5 63 _ (by decide) plf
    have p2 : DN.plain 64 (.lst []) = true := rfl
    rw [p1, p2, Bool.and_self, Bool.or_true, if_pos rfl]
    show some (D.bl (DN.eqds (ds.filter fun d => !lnB d) [])) = _
    rw [eqds_nil, filt_all]
  have ipr : d_is_program [.tup ds] = .ok (.bl (decide ((ds.length : Int) ≤ 30) && ds.all lnB)) := by
    by_cases q : (ds.length : Int) ≤ 30
    · simp?! [v_is_program, g_is_program, isi_t kit_tt, decide_eq_true q, lc2, all_map]
      rfl
    · simp?! [v_is_program, g_is_program, isi_t kit_tt, decide_eq_false q]
      rfl
  have du : andE (cal isiD (acons (var 2) (acons (con (.ty "tuple")) anil))) (andE (bop leD (cal lenD (acons (var 2) anil)) (con (.int 30))) (bop eqD (lcD (its (var 2)) 6 (notQ (tst (callD 1 d__law_is_line (acons (var 6) anil)))) e1_law) (mkL anil))) [a, b, .z (.tup ds), c, d, .u, .u, .u] = .ok (.bl (decide ((ds.length : Int) ≤ 30) && ds.all lnB)) := by
    by_cases q : (ds.length : Int) ≤ 30
    · simp?! [isi_t kit_tt, decide_eq_true q, lc, eqN]
      rfl
    · simp?! [isi_t kit_tt, decide_eq_false q]
      rfl
  have nb : ∀ x : Bool, neD (.bl x) (.bl x) = some (.bl false) := fun x => by rw [ne_bb]; simp
  cases hd : (decide ((ds.length : Int) ≤ 30) && ds.all lnB) with
  | false =>
    rw [hd] at du ipr
    have as : sasg (andE (cal isiD (acons (var 2) (acons (con (.ty "tuple")) anil))) (andE (bop leD (cal lenD (acons (var 2) anil)) (con (.int 30))) (bop eqD (lcD (its (var 2)) 6 (notQ (tst (callD 1 d__law_is_line (acons (var 6) anil)))) e1_law) (mkL anil)))) (gn 5) [a, b, .z (.tup ds), c, d, .u, .u, .u] = .nx [a, b, .z (.tup ds), c, d, .z (.bl false), .u, .u] := by
      rw [sasg_def, du]; rfl
    unfold t6_law
    rw [sseq_def, as, seqR_nx]
    simp?! [t7_law, t8_law, t9_law, ipr, isi_b kit_bb, nb]
  | true =>
    rw [hd] at du ipr
    have as : sasg (andE (cal isiD (acons (var 2) (acons (con (.ty "tuple")) anil))) (andE (bop leD (cal lenD (acons (var 2) anil)) (con (.int 30))) (bop eqD (lcD (its (var 2)) 6 (notQ (tst (callD 1 d__law_is_line (acons (var 6) anil)))) e1_law) (mkL anil)))) (gn 5) [a, b, .z (.tup ds), c, d, .u, .u, .u] = .nx [a, b, .z (.tup ds), c, d, .z (.bl true), .u, .u] := by
      rw [sasg_def, du]; rfl
    unfold t6_law
    rw [sseq_def, as, seqR_nx]
    rw [Bool.and_eq_true] at hd
    obtain ⟨ys, s1, s2, s3, s4⟩ := strs_of ds h hd.2
    have jn := joinT s1 s3 s2 (by omega)
    have jl := join_len ys
    have eqT : eqD (.tup ds) (.tup []) = some (.bl ds.isEmpty) := by
      unfold eqD eqOk
      have p1 : DN.plain 64 (.tup ds) = true := plains_up 5 63 _ (by decide) pl
      have p2 : DN.plain 64 (.tup []) = true := rfl
      rw [p1, p2, Bool.and_self, Bool.or_true, if_pos rfl]
      show some (D.bl (DN.eqds ds [])) = _
      rw [eqds_nil]
    cases ds with
    | nil =>
      have ys0 : ys = [] := List.eq_nil_of_length_eq_zero (by simpa using s2)
      subst ys0
      have e0 : ((([] : List D).length : Int) == 0) = true := rfl
      have wp : d_written_program [.tup []] = .ok (.str "-") := by kernel_rfl
      have rhs : bop addD (met joinD (con (.str " ")) (acons (var 2) anil)) (bop mulD (con (.str "-")) (cal intD (acons (bop eqD (var 2) (mkT anil)) anil))) [a, b, .z (.tup []), c, d, .z (.bl true), .u, .z (.bl true)] = .ok (.str "-") := by kernel_rfl
      have key : finR (t7_law [a, b, .z (.tup []), c, d, .z (.bl true), .u, .u]) = finR (t9_law [a, b, .z (.tup []), c, d, .z (.bl true), .u, .z (.bl true)]) := by
        simp?! [t7_law, t8_law, ipr, isi_b kit_bb, nb]
      rw [key]
      unfold t9_law
      have eq1 : bop eqD (callD 1 d_written_program (acons (var 2) anil)) (bop addD (met joinD (con (.str " ")) (acons (var 2) anil)) (bop mulD (con (.str "-")) (cal intD (acons (bop eqD (var 2) (mkT anil)) anil)))) [a, b, .z (.tup []), c, d, .z (.bl true), .u, .z (.bl true)] = .ok (.bl true) := by
        rw [bin_def, rhs]
        simp?! [wp, beq_self_eq_true]
      have h5 : notE (var 5) [a, b, .z (.tup []), c, d, .z (.bl true), .u, .z (.bl true)] = .ok (.bl false) := rfl
      rw [sret_def, orE_def, h5, orER_f, eq1, retR_ok, finR_rt]
    | cons d0 dr =>
      have e0 : (((d0 :: dr).length : Int) == 0) = false := by
        rw [beq_eq_false_iff_ne]
        rw [List.length_cons]
        omega
      have wp : d_written_program [.tup (d0 :: dr)] = .ok (.str (Txt.join " " ys)) := by
        simp?! [v_written_program, g_written_program, t1_written_program, e0, met_def, metR_ok, jn]
      have em : (d0 :: dr).isEmpty = false := rfl
      rw [em] at eqT
      have m0 : mulD (.str "-") (.int 0) = some (.str "") := by kernel_rfl
      have ad : addD (.str (Txt.join " " ys)) (.str "") = some (.str (Txt.join " " ys)) := by
        rw [add_ss (by have : (Str.ofString "").length = 0 := by decide +kernel
                       omega), s_app_nil]
      simp?! [t7_law, t8_law, t9_law, ipr, isi_b kit_bb, nb, wp, met_def, metR_ok, jn, eqT, m0, ad, beq_self_eq_true, if_false, Bool.false_eq_true]
theorem tail30l {a b c d : En} {ds : List D} : finR (t6_law [a, b, .z (.lst ds), c, d, .u, .u, .u]) = .ok (.bl true) := by
  have nb : ∀ x : Bool, neD (.bl x) (.bl x) = some (.bl false) := fun x => by rw [ne_bb]; simp
  have ipr : d_is_program [.lst ds] = .ok (.bl false) := by
    simp?! [v_is_program, g_is_program, isi_l kit_lt]
  simp?! [t6_law, t7_law, t8_law, t9_law, isi_l kit_lt, ipr, isi_b kit_bb, nb]
theorem law_true (ns : List Int) (h : ns.length ≤ 63) (hz : ∀ z ∈ ns, Builtin.Int.intBits z ≤ 1048576) : d_law [.arr ns] = .ok (.bl true) := by
  obtain ⟨m0, e0, g0, g1⟩ := x_mixed (ns := ns) (k := 0) (by omega) (by omega)
  obtain ⟨m1, e1, h0, _⟩ := x_mixed (ns := ns) (k := 1) (by omega) (by omega)
  obtain ⟨ds, p1, p2, p3⟩ := x_lprog (n := m1) (most := 31) h0 (by omega) (by omega)
  have hp : (0 : Int) < (ds.length : Int) + 1 := by omega
  have md := mod_p (i := m0 / 32) hp
  obtain ⟨at_, hat⟩ : ∃ a, a = m0 / 32 % ((ds.length : Int) + 1) := ⟨_, rfl⟩
  rw [← hat] at md
  have q0 : 0 ≤ at_ := by rw [hat]; exact Int.emod_nonneg _ (by omega)
  have q1 : at_ ≤ ds.length := by
    have := Int.emod_lt_of_pos (m0 / 32) hp
    omega
  have mkO : mkL (acons (con (.str "root")) (acons (con (.str "last")) (acons (con (.str "put9")) (acons (con (.str "go")) (acons (con (.str "mark")) (acons (con (.str "mark10")) (acons (con (.str "callx")) (acons (con (.str "call0")) (acons (con (.str "x")) (acons (con (.str "")) (acons (con (.str "10")) (acons (con (.str ".")) (acons (con (.int 1)) (acons (con .non) (acons (mkT anil) (acons (mkT (acons (con (.str "1")) anil)) anil)))))))))))))))) [.z (.arr ns), .z (.int m0), .z (.tup ds), .u, .u, .u, .u, .u] = .ok (.lst lnO) := by kernel_rfl
  have as3 : t2_law [.z (.arr ns), .z (.int m0), .z (.tup ds), .u, .u, .u, .u, .u] = t3_law [.z (.arr ns), .z (.int m0), .z (.tup ds), .z (.lst lnO), .u, .u, .u, .u] := by
    unfold t2_law
    rw [sseq_def, sasg_def, mkO]
    rfl
  have key : d_law [.arr ns] = finR (t4_law [.z (.arr ns), .z (.int m0), .z (.tup ds), .z (.lst lnO), .z (.int at_), .u, .u, .u]) := by
    simp?! [v_law, g_law, t1_law, e0, e1, p3, as3, t3_law, md]
  rw [key]
  have fin : ∀ es : List D, es.length ≤ 80 → (∀ d ∈ es, LnOk d) → finR (t5_law [.z (.arr ns), .z (.int m0), .z (.tup es), .z (.lst lnO), .z (.int at_), .u, .u, .u]) = .ok (.bl true) := by
    intro es hl ho
    by_cases c : m0 / 4096 % 16 = 1
    · have ls : listD [.tup es] = some (.lst es) := rfl
      have key2 : finR (t5_law [.z (.arr ns), .z (.int m0), .z (.tup es), .z (.lst lnO), .z (.int at_), .u, .u, .u]) = finR (t6_law [.z (.arr ns), .z (.int m0), .z (.lst es), .z (.lst lnO), .z (.int at_), .u, .u, .u]) := by
        simp?! [t5_law, c, beq_self_eq_true, ls]
      rw [key2]
      exact tail30l
    · have ec : (m0 / 4096 % 16 == 1) = false := by simpa using c
      have key2 : finR (t5_law [.z (.arr ns), .z (.int m0), .z (.tup es), .z (.lst lnO), .z (.int at_), .u, .u, .u]) = finR (t6_law [.z (.arr ns), .z (.int m0), .z (.tup es), .z (.lst lnO), .z (.int at_), .u, .u, .u]) := by
        simp?! [t5_law, ec]
      rw [key2]
      exact tail30 hl ho
  by_cases c : m0 % 2 = 1
  · have s1 := sl_hiT (f := fun d : D => d) q0 q1 (by omega)
    rw [List.map_id', List.map_id'] at s1
    have s2 : ∃ rest, slD (.tup ds) (some (at_ + 1)) none = some (.tup rest) ∧ rest.length ≤ ds.length ∧ ∀ d ∈ rest, d ∈ ds := by
      refine ⟨_, rfl, ?_, fun d hd => ?_⟩
      · unfold DN.cutD
        rw [List.length_take, List.length_drop]
        omega
      · unfold DN.cutD at hd
        exact List.mem_of_mem_drop (List.mem_of_mem_take hd)
    obtain ⟨rest, s2, s3, s4⟩ := s2
    have ix := ix_lm (xs := lnO) (i := m0 / 2) (m := 16) ⟨by decide, by decide⟩
    have hi : (m0 / 2 % 16).toNat < lnO.length := by have : lnO.length = 16 := rfl; omega
    have hm := sel_mem hi
    generalize lnO.getD (m0 / 2 % 16).toNat .non = od at ix hm
    have ad1 := add_tt (a := ds.take at_.toNat) (b := [od]) (by rw [List.length_take]; simp; omega)
    have ad2 := add_tt (a := ds.take at_.toNat ++ [od]) (b := rest) (by rw [List.length_append, List.length_take]; simp; omega)
    have key2 : finR (t4_law [.z (.arr ns), .z (.int m0), .z (.tup ds), .z (.lst lnO), .z (.int at_), .u, .u, .u]) = finR (t5_law [.z (.arr ns), .z (.int m0), .z (.tup (ds.take at_.toNat ++ [od] ++ rest)), .z (.lst lnO), .z (.int at_), .u, .u, .u]) := by
      simp?! [t4_law, c, beq_self_eq_true, s1, s2, ix, ad1, ad2]
    rw [key2]
    refine fin _ ?_ fun d hd => ?_
    · rw [List.length_append, List.length_append, List.length_take]; simp; omega
    · rcases List.mem_append.mp hd with hd | hd
      · rcases List.mem_append.mp hd with hd | hd
        · exact ln_L d (p1 d (List.mem_of_mem_take hd))
        · rcases List.mem_singleton.mp hd with rfl
          exact ln_O _ hm
      · exact ln_L d (p1 d (s4 d hd))
  · have ec : (m0 % 2 == 1) = false := by simpa using c
    have key2 : finR (t4_law [.z (.arr ns), .z (.int m0), .z (.tup ds), .z (.lst lnO), .z (.int at_), .u, .u, .u]) = finR (t5_law [.z (.arr ns), .z (.int m0), .z (.tup ds), .z (.lst lnO), .z (.int at_), .u, .u, .u]) := by
      simp?! [t4_law, ec]
    rw [key2]
    exact fin ds (by omega) fun d hd => ln_L d (p1 d hd)
def dd_ten : He.DefD := ⟨("ten", none), "ten", "ten", defArgs s_ten, defBody s_ten, defScope s_ten, [], []⟩
def dd_figures_of : He.DefD := ⟨("figures_of", none), "figures_of", "figures_of", defArgs s_figures_of, defBody s_figures_of, defScope s_figures_of, [], []⟩
def dd_height : He.DefD := ⟨("height", none), "height", "height", defArgs s_height, defBody s_height, defScope s_height, [], []⟩
def dd_taken : He.DefD := ⟨("taken", none), "taken", "taken", defArgs s_taken, defBody s_taken, defScope s_taken, [], []⟩
def dd_by_size : He.DefD := ⟨("by_size", none), "by_size", "by_size", defArgs s_by_size, defBody s_by_size, defScope s_by_size, [], []⟩
def dd_fitted : He.DefD := ⟨("fitted", none), "fitted", "fitted", defArgs s_fitted, defBody s_fitted, defScope s_fitted, [], []⟩
def dd_power_for : He.DefD := ⟨("power_for", none), "power_for", "power_for", defArgs s_power_for, defBody s_power_for, defScope s_power_for, [], []⟩
def dd_exact : He.DefD := ⟨("exact", none), "exact", "exact", defArgs s_exact, defBody s_exact, defScope s_exact, [], []⟩
def dd_level : He.DefD := ⟨("level", none), "level", "level", defArgs s_level, defBody s_level, defScope s_level, [], []⟩
def dd_of_power : He.DefD := ⟨("of_power", none), "of_power", "of_power", defArgs s_of_power, defBody s_of_power, defScope s_of_power, [], []⟩
def dd_plus : He.DefD := ⟨("plus", none), "plus", "plus", defArgs s_plus, defBody s_plus, defScope s_plus, [], []⟩
def dd_turned : He.DefD := ⟨("turned", none), "turned", "turned", defArgs s_turned, defBody s_turned, defScope s_turned, [], []⟩
def dd_minus : He.DefD := ⟨("minus", none), "minus", "minus", defArgs s_minus, defBody s_minus, defScope s_minus, [], []⟩
def dd_times : He.DefD := ⟨("times", none), "times", "times", defArgs s_times, defBody s_times, defScope s_times, [], []⟩
def dd_over : He.DefD := ⟨("over", none), "over", "over", defArgs s_over, defBody s_over, defScope s_over, [], []⟩
def dd_is_key : He.DefD := ⟨("is_key", none), "is_key", "is_key", defArgs s_is_key, defBody s_is_key, defScope s_is_key, [], []⟩
def dd_is_line : He.DefD := ⟨("is_line", none), "is_line", "is_line", defArgs s_is_line, defBody s_is_line, defScope s_is_line, [], []⟩
def dd_is_program : He.DefD := ⟨("is_program", none), "is_program", "is_program", defArgs s_is_program, defBody s_is_program, defScope s_is_program, [], []⟩
def dd_written_program : He.DefD := ⟨("written_program", none), "written_program", "written_program", defArgs s_written_program, defBody s_written_program, defScope s_written_program, [], []⟩
def dd__law_cell_at : He.DefD := ⟨("_law_cell_at", none), "_law_cell_at", "_law_cell_at", defArgs s__law_cell_at, defBody s__law_cell_at, defScope s__law_cell_at, [], []⟩
def dd__law_mixed : He.DefD := ⟨("_law_mixed", none), "_law_mixed", "_law_mixed", defArgs s__law_mixed, defBody s__law_mixed, defScope s__law_mixed, [], []⟩
def dd__law_drawn : He.DefD := ⟨("_law_drawn", none), "_law_drawn", "_law_drawn", defArgs s__law_drawn, defBody s__law_drawn, defScope s__law_drawn, [], []⟩
def dd__law_line : He.DefD := ⟨("_law_line", none), "_law_line", "_law_line", defArgs s__law_line, defBody s__law_line, defScope s__law_line, [], []⟩
def dd__law_program : He.DefD := ⟨("_law_program", none), "_law_program", "_law_program", defArgs s__law_program, defBody s__law_program, defScope s__law_program, [], []⟩
def dd__law_is_line : He.DefD := ⟨("_law_is_line", none), "_law_is_line", "_law_is_line", defArgs s__law_is_line, defBody s__law_is_line, defScope s__law_is_line, [], []⟩
def dd_law : He.DefD := ⟨("law", none), "law", "law", defArgs s_law, defBody s_law, defScope s_law, [], []⟩
def fn : List He.DefD := [dd_ten, dd_figures_of, dd_height, dd_taken, dd_by_size, dd_fitted, dd_power_for, dd_exact, dd_level, dd_of_power, dd_plus, dd_turned, dd_minus, dd_times, dd_over, dd_is_key, dd_is_line, dd_is_program, dd_written_program, dd__law_cell_at, dd__law_mixed, dd__law_drawn, dd__law_line, dd__law_program, dd__law_is_line, dd_law]
def fa : List He.Fa := [.glo "ten", .glo "figures_of", .glo "height", .glo "taken", .glo "by_size", .glo "fitted", .glo "power_for", .glo "exact", .glo "level", .glo "of_power", .glo "plus", .glo "turned", .glo "minus", .glo "times", .glo "over", .glo "is_key", .glo "is_line", .glo "is_program", .glo "written_program", .glo "_law_cell_at", .glo "_law_mixed", .glo "_law_drawn", .glo "_law_line", .glo "_law_program", .glo "_law_is_line", .glo "law", .free "int", .free "abs", .free "str", .free "len", .free "max", .free "min", .free "isinstance", .free "tuple", .free "all", .free "range", .free "list", .free "bool", .int "HIGHEST" (40), .int "MOST" (8), .int "MOST_LINES" (30), .str "FIGURES" "0123456789", .glo "PLAIN_KEYS", .glo "OTHERS", .glo "WORDS", .glo "DEEDS", .glo "TooGreat", .exc "TooGreat", .glo "NoDeed", .exc "NoDeed"]
def ts : List He.Tab := [((fun K => He.ga K "DEEDS"), ["plus", "minus", "times", "over"])]
def tf : List He.Defn := []
def ex (K : PySem.W.Frag) : Bool := (He.tupB K "PLAIN_KEYS" (k_PLAIN_KEYS.map He.Dv.str) && (He.tupB K "OTHERS" (k_OTHERS.map He.Dv.str) && (He.tupB K "WORDS" (k_WORDS.map He.Dv.str) && (He.valsB K (He.ga K "DEEDS") [("plus", He.Dv.glo "plus"), ("minus", He.Dv.glo "minus"), ("times", He.Dv.glo "times"), ("over", He.Dv.glo "over")] && true))))
abbrev R : PySem.W.OpenRow := PySem.W.OpenLaw.row PySem.Challenge.rw_pocketpile_k30_programs
abbrev hk : PySem.W.Hook := He.hookX 5 fa fn ts tf ex
def ob (s : PySem.W.SharedT) : He.AlX := He.obsX 5 fa fn ts tf ex (HandSHeadRun.getT s)
theorem ob_eq (s : PySem.W.SharedT) : ob s = hk.obs s.abs := He.obsX_eq (HandSHeadRun.getT_eq s)
def names : List PySem.Str := (["PileError", "TooGreat", "NoDeed", "MOST", "HIGHEST", "ten", "figures_of", "height", "taken", "by_size", "fitted", "power_for", "exact", "level", "of_power", "plus", "turned", "minus", "times", "over"] : List PySem.Str) ++ (["FIGURES", "DEEDS", "PLAIN_KEYS", "is_key", "MOST_LINES", "OTHERS", "WORDS", "is_line", "is_program", "written_program", "_law_cell_at", "_law_mixed", "_law_drawn", "_law_line", "_law_program", "_law_is_line"] : List PySem.Str)
theorem run_f (w : World) : HandSHeadRun.RunEq R (PySem.W.view R.prog [42]) hk ob 3000 names (w.withFollow "special-get-raises" false) := by
  intro os
  kernel_rfl
theorem run_t (w : World) : HandSHeadRun.RunEq R (PySem.W.view R.prog [42]) hk ob 3000 names (w.withFollow "special-get-raises" true) := by
  intro os
  kernel_rfl
theorem run (w : World) : HandSHeadRun.RunEq R (PySem.W.view R.prog [42]) hk ob 3000 names w := PySem.W.byRow2 "special-get-raises" (P := fun w => HandSHeadRun.RunEq R (PySem.W.view R.prog [42]) hk ob 3000 names w) run_f run_t w
theorem top_of {w : World} {K : PySem.W.Frag} {h : Heap} {mg : Str → Option Value} (X : K.In h) (G : h.Ns mainGlobals mg) (c : He.SaysX fa fn ts tf ex w h K) : Top w K mg :=
  ⟨(c.t.d.def_ 0 (d := dd_ten) rfl),
   (He.glo_ok X G (c.t.d.fact 0 (f := .glo "ten") rfl)),
   (c.t.d.def_ 1 (d := dd_figures_of) rfl),
   (He.glo_ok X G (c.t.d.fact 1 (f := .glo "figures_of") rfl)),
   (c.t.d.def_ 2 (d := dd_height) rfl),
   (He.glo_ok X G (c.t.d.fact 2 (f := .glo "height") rfl)),
   (c.t.d.def_ 3 (d := dd_taken) rfl),
   (He.glo_ok X G (c.t.d.fact 3 (f := .glo "taken") rfl)),
   (c.t.d.def_ 4 (d := dd_by_size) rfl),
   (He.glo_ok X G (c.t.d.fact 4 (f := .glo "by_size") rfl)),
   (c.t.d.def_ 5 (d := dd_fitted) rfl),
   (He.glo_ok X G (c.t.d.fact 5 (f := .glo "fitted") rfl)),
   (c.t.d.def_ 6 (d := dd_power_for) rfl),
   (He.glo_ok X G (c.t.d.fact 6 (f := .glo "power_for") rfl)),
   (c.t.d.def_ 7 (d := dd_exact) rfl),
   (He.glo_ok X G (c.t.d.fact 7 (f := .glo "exact") rfl)),
   (c.t.d.def_ 8 (d := dd_level) rfl),
   (He.glo_ok X G (c.t.d.fact 8 (f := .glo "level") rfl)),
   (c.t.d.def_ 9 (d := dd_of_power) rfl),
   (He.glo_ok X G (c.t.d.fact 9 (f := .glo "of_power") rfl)),
   (c.t.d.def_ 10 (d := dd_plus) rfl),
   (He.glo_ok X G (c.t.d.fact 10 (f := .glo "plus") rfl)),
   (c.t.d.def_ 11 (d := dd_turned) rfl),
   (He.glo_ok X G (c.t.d.fact 11 (f := .glo "turned") rfl)),
   (c.t.d.def_ 12 (d := dd_minus) rfl),
   (He.glo_ok X G (c.t.d.fact 12 (f := .glo "minus") rfl)),
   (c.t.d.def_ 13 (d := dd_times) rfl),
   (He.glo_ok X G (c.t.d.fact 13 (f := .glo "times") rfl)),
   (c.t.d.def_ 14 (d := dd_over) rfl),
   (He.glo_ok X G (c.t.d.fact 14 (f := .glo "over") rfl)),
   (c.t.d.def_ 15 (d := dd_is_key) rfl),
   (He.glo_ok X G (c.t.d.fact 15 (f := .glo "is_key") rfl)),
   (c.t.d.def_ 16 (d := dd_is_line) rfl),
   (He.glo_ok X G (c.t.d.fact 16 (f := .glo "is_line") rfl)),
   (c.t.d.def_ 17 (d := dd_is_program) rfl),
   (He.glo_ok X G (c.t.d.fact 17 (f := .glo "is_program") rfl)),
   (c.t.d.def_ 18 (d := dd_written_program) rfl),
   (He.glo_ok X G (c.t.d.fact 18 (f := .glo "written_program") rfl)),
   (c.t.d.def_ 19 (d := dd__law_cell_at) rfl),
   (He.glo_ok X G (c.t.d.fact 19 (f := .glo "_law_cell_at") rfl)),
   (c.t.d.def_ 20 (d := dd__law_mixed) rfl),
   (He.glo_ok X G (c.t.d.fact 20 (f := .glo "_law_mixed") rfl)),
   (c.t.d.def_ 21 (d := dd__law_drawn) rfl),
   (He.glo_ok X G (c.t.d.fact 21 (f := .glo "_law_drawn") rfl)),
   (c.t.d.def_ 22 (d := dd__law_line) rfl),
   (He.glo_ok X G (c.t.d.fact 22 (f := .glo "_law_line") rfl)),
   (c.t.d.def_ 23 (d := dd__law_program) rfl),
   (He.glo_ok X G (c.t.d.fact 23 (f := .glo "_law_program") rfl)),
   (c.t.d.def_ 24 (d := dd__law_is_line) rfl),
   (He.glo_ok X G (c.t.d.fact 24 (f := .glo "_law_is_line") rfl)),
   (c.t.d.def_ 25 (d := dd_law) rfl),
   (He.glo_ok X G (c.t.d.fact 25 (f := .glo "law") rfl)),
   (He.free_ok X G (c.t.d.fact 26 (f := .free "int") rfl)),
   (He.free_ok X G (c.t.d.fact 27 (f := .free "abs") rfl)),
   (He.free_ok X G (c.t.d.fact 28 (f := .free "str") rfl)),
   (He.free_ok X G (c.t.d.fact 29 (f := .free "len") rfl)),
   (He.free_ok X G (c.t.d.fact 30 (f := .free "max") rfl)),
   (He.free_ok X G (c.t.d.fact 31 (f := .free "min") rfl)),
   (He.free_ok X G (c.t.d.fact 32 (f := .free "isinstance") rfl)),
   (He.free_ok X G (c.t.d.fact 33 (f := .free "tuple") rfl)),
   (He.free_ok X G (c.t.d.fact 34 (f := .free "all") rfl)),
   (He.free_ok X G (c.t.d.fact 35 (f := .free "range") rfl)),
   (He.free_ok X G (c.t.d.fact 36 (f := .free "list") rfl)),
   (He.free_ok X G (c.t.d.fact 37 (f := .free "bool") rfl)),
   (He.int_ok X G (c.t.d.fact 38 (f := .int "HIGHEST" (40)) rfl)),
   (He.int_ok X G (c.t.d.fact 39 (f := .int "MOST" (8)) rfl)),
   (He.int_ok X G (c.t.d.fact 40 (f := .int "MOST_LINES" (30)) rfl)),
   (He.str_ok X G (c.t.d.fact 41 (f := .str "FIGURES" "0123456789") rfl)),
   (He.glo_ok X G (c.t.d.fact 42 (f := .glo "PLAIN_KEYS") rfl)),
   (fun H => tup_strs (He.tupB_ok (He.ba c.more).1 H)),
   (He.glo_ok X G (c.t.d.fact 43 (f := .glo "OTHERS") rfl)),
   (fun H => tup_strs (He.tupB_ok (He.ba (He.ba c.more).2).1 H)),
   (He.glo_ok X G (c.t.d.fact 44 (f := .glo "WORDS") rfl)),
   (fun H => tup_strs (He.tupB_ok (He.ba (He.ba (He.ba c.more).2).2).1 H)),
   (dic_f X G (tab_eq c.t 0 (t := ((fun K => He.ga K "DEEDS"), ["plus", "minus", "times", "over"])) rfl) (He.ba (He.ba (He.ba (He.ba c.more).2).2).2).1 (c.t.d.fact 45 (f := .glo "DEEDS") rfl)),
   (exc_n X G (c.t.d.fact 46 (f := .glo "TooGreat") rfl) (c.t.d.fact 47 (f := .exc "TooGreat") rfl)),
   (exc_n X G (c.t.d.fact 48 (f := .glo "NoDeed") rfl) (c.t.d.fact 49 (f := .exc "NoDeed") rfl))⟩
theorem law_end {l : PySem.W.OpenLaw} {w : World} {K : PySem.W.Frag} {h : Heap} {mg : Str → Option Value} {f : Addr} (X : K.In h) (G : h.Ns mainGlobals mg) (hfa : mg ("law" : Str) = some (.ref f)) (c : He.SaysX fa fn ts tf ex w h K) : LamX.LawAtS l w K (L2.CX l.prog w) 11 63 "script" mg f h := by
  have Z := top_of X G c
  have e := hfa.symm.trans Z.m_law
  cases e
  obtain ⟨fd, Fd⟩ := Z.f_law
  have b := FunD.bindsA (ps := ["script"]) Fd fun _ _ _ _ _ _ us hl => match us, hl with | [_], _ => rfl
  refine lawAt0 (fd := fd) (den := d_law) (fun s v => b s [v] rfl) law_true fun base h1 h2 => ?_
  exact law_fn Z Fd
end LW
open PySem PySem.W PySem.Calls PyProof.Rows
set_option maxRecDepth 100000 in
set_option maxHeartbeats 0 in
theorem PySem.Challenge.cw_pocketpile_k30_programs_holds : PySem.Challenge.rw_pocketpile_k30_programs.Holds := by
  w_on; o_law
  refine HandSHeadRun.head_any (r := OpenLaw.row PySem.Challenge.rw_pocketpile_k30_programs) (q := view (OpenLaw.row PySem.Challenge.rw_pocketpile_k30_programs).prog [42]) (H := LW.hk) (ob := LW.ob) (M := 3000) (loose := LW.names) (d := HandSHeadRun.topDef (OpenLaw.row PySem.Challenge.rw_pocketpile_k30_programs).prog 42) (kwd := []) LW.ob_eq
    (by kernel_rfl) (fun s => by kernel_rfl) LW.run (by kernel_rfl) (by kernel_rfl) (by kernel_rfl) (by rfl) (by first | assumption | decide +kernel) (by decide +kernel) ⟨rfl, rfl, rfl, rfl, rfl, by decide +kernel⟩ ?hw ?hc
  case hw => w_witness2
  case hc =>
    refine LamX.walk_ofTsE (l := PySem.Challenge.rw_pocketpile_k30_programs) (n := 63) (k := 11) (x := "script") (CX := fun w => L2.CX (PySem.Challenge.rw_pocketpile_k30_programs).prog w) rfl (by decide) (by kernel_rfl) ⟨rfl, by decide, by decide⟩ ?F (fun _ _ _ _ _ z => DN.cx_false z)
    intro w mg fa h Y G hmg0
    obtain ⟨K, KX, c⟩ := Y
    have hmg : mg ("law" : PySem.Str) = some (.ref fa) := by
      have e : (HandSHeadRun.topDef (OpenLaw.row PySem.Challenge.rw_pocketpile_k30_programs).prog 42).name = ("law" : PySem.Str) := by kernel_rfl
      rw [← e]
      exact hmg0
    exact ⟨K, KX, LW.law_end (l := PySem.Challenge.rw_pocketpile_k30_programs) KX G hmg c⟩
