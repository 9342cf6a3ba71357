import PyProof.Rows.All
import Wide.All
import OpenK.AllK
import Wide.FinOn
import PyProof.EqAt
import PyProof.EqKinds
import PyProof.TupleCall
import HandS.Base
import HandS.Call
import HandS.List
import HandS.Comp
import HandS.Ends
import HandS.Dict
import HandS.Iter
import HandS.Text
import HandS.Words
import HandS.WordsList
import HandS.WordsExc
import HandS.Exc
import HandS.ExcOwn
import HandS.Wide
import HandS.IsInst
import HandS.TupAny
import HandS.TupMul
import HandS.Lambda
import HandS.EndTab
import HandS.HeadWalk
import HandS.HeadHook1
import HandS.HeadHook2
import HandS.Defaults
import HandS.NoneIn
import HandS.Style
import KE.KDictDisplayH
import HandS.HeadEnd
import HandS.Head0
import HandS.Head1
import HandS.Head2
import HandS.HeadHook3
import HandS.HeadHook4
import HandS.Replace
import HandS.ExcIs
import HandS.Flt
import HandS.More
import HandS.TryMany
import HandS.CallLocal
import HandS.Strs
import HandS.ReplaceLit
import HandS.ReplaceList
import HandS.Zip
import PyProof.ReprRoads
import HandS.Deep
import HandS.Small
import PyProof.DictUpdate
import KE.GoesMore
import KE.KItemsList
import HandS.DictTup
import KE.KDictZip
import HandS.ReplaceDef
import KE.GoesEnum
import HandS.Nested
import HandS.StrMore
import KE.KDictCopyH
import KE.KDictKeyed
import KE.KEqDict
import KE.SortData
import KE.KDictPairs
import KE.DataCmp
import KE.IntTextLaws
import PySem.Challenge.RW_pocketpile_k10_deeds
set_option Elab.async false
set_option linter.all false
set_option maxRecDepth 100000
set_option maxHeartbeats 4000000
/-! DN: a program's defs as plain functions of data. The heap is dealt with here, once. -/
namespace DN
open PySem PySem.Spec PyProof.Rows L2
open LamX (Tabs ExtN)

/-- data -/
inductive D where
  | non | bl (b : Bool) | int (i : Int) | str (x : Str) | lst (xs : List D) | tup (xs : List D) | fn (x : Str) | ty (n : String)
  | dK (kvs : List (Key × V)) | dT (kvs : List (List Key × V)) | arr (ns : List Int)
  /-- a tuple of texts that has no dict of its own -/
  | pro (xs : List Str)
  /-- a dict whose keys are nested tuples (an object of the frame's own) -/
  | dic (P : Program) (w : World) (ks vs : List D)
  /-- a thing known by its address alone -/
  | adr (a : Addr)
  /-- an instance of the class c, its attributes (an object of the frame's own) -/
  | ins (c : Str) (ns : List Str) (vs : List D)
  /-- a dict of text keys, frozen; where its address is known, that one -/
  | tab (o : Option Addr) (ks : List Str) (vs : List D)
  /-- a tuple of ints, made at run time -/
  | pw (ks : List Int)
  /-- a tuple that has no dict of its own -/
  | frm (ds : List D)
def kvK (ks : List Str) (vs : List V) : List (Key × V) := (ks.zip vs).map fun q => (Sum.inr q.1, q.2)

/-- what comes: a value, an own error by its class's name, or nothing is promised -/
inductive Res (α : Type) where
  | ok (a : α) | ex (n : Str) | bad
def Res.bind {α β : Type} : Res α → (α → Res β) → Res β
  | .ok a, f => f a
  | .ex n, _ => .ex n
  | .bad, _ => .bad
def Res.map {α β : Type} (r : Res α) (f : α → β) : Res β := r.bind fun a => .ok (f a)
def ofO {α : Type} : Option α → Res α
  | some a => .ok a
  | none => .bad

mutual
inductive Rp (K : PySem.W.Frag) (H : Hp) : V → D → Prop
  | non : Rp K H .non .non
  | bl (b : Bool) : Rp K H (.bl b) (.bl b)
  | int (i : Int) : Rp K H (.int i) (.int i)
  | str (x : Str) : Rp K H (.str x) (.str x)
  | fn (x : Str) : Rp K H (.ref (He.ga K x)) (.fn x)
  | ty (n : String) : Rp K H (.ty n) (.ty n)
  | lst {a : Addr} {xs : List V} {ds : List D} : H a = some (.lst xs) → RpAll K H xs ds → Rp K H (.ref a) (.lst ds)
  | tup {a : Addr} {xs : List V} {ds : List D} : SqT K H a xs → RpAll K H xs ds → Rp K H (.ref a) (.tup ds)
  | dK {a : Addr} {kvs : List (Key × V)} : H a = some (.dK kvs) → Rp K H (.ref a) (.dK kvs)
  | dT {a : Addr} {kvs : List (List Key × V)} : (∃ od, H a = some (.frz od (.dT kvs))) → Rp K H (.ref a) (.dT kvs)
  | arr {a : Addr} {ns : List Int} : SqL K H a (ns.map V.int) → Rp K H (.ref a) (.arr ns)
  | pro {a : Addr} {xs : List Str} : (∃ o : Obj, o.cls = .type "tuple" ∧ o.dict = none ∧ H a = some (.frz o (.tup (xs.map V.str)))) → Rp K H (.ref a) (.pro xs)
  | adr (a : Addr) : Rp K H (.ref a) (.adr a)
  | tab {a : Addr} {o : Option Addr} {ks : List Str} {ws : List V} {ds : List D} : (∀ p, o = some p → a = p) → H a = some (.dK (kvK ks ws)) → ks.length = ws.length → RpAll K H ws ds → Rp K H (.ref a) (.tab o ks ds)
  | pw {a : Addr} {ks : List Int} : H a = some (.tup (ks.map V.int)) → Rp K H (.ref a) (.pw ks)
  | frm {a : Addr} {xs : List V} {ds : List D} : (∃ o : Obj, o.cls = .type "tuple" ∧ o.dict = none ∧ H a = some (.frz o (.tup xs))) → RpAll K H xs ds → Rp K H (.ref a) (.frm ds)
inductive RpAll (K : PySem.W.Frag) (H : Hp) : List V → List D → Prop
  | nil : RpAll K H [] []
  | cons {v : V} {vs : List V} {d : D} {ds : List D} : Rp K H v d → RpAll K H vs ds → RpAll K H (v :: vs) (d :: ds)
end

def Sub (F H : Hp) : Prop := ∀ a o, F a = some o → H a = some o
theorem Sub.refl (F : Hp) : Sub F F := fun _ _ h => h
theorem Sub.trans {F G H : Hp} (a : Sub F G) (b : Sub G H) : Sub F H := fun x o h => b x o (a x o h)
theorem Sub.rd {F H : Hp} {a : Addr} {u : HO} (e : Sub F H) (h : Rd F a u) : Rd H a u := by
  rcases h with h | ⟨o, h⟩
  · exact .inl (e _ _ h)
  · exact .inr ⟨o, e _ _ h⟩
theorem Sub.sl {K : PySem.W.Frag} {F H : Hp} {a : Addr} {xs : List V} (e : Sub F H) (h : SqL K F a xs) : SqL K H a xs := h.elim (fun h => .inl (e.rd h)) .inr
theorem Sub.st {K : PySem.W.Frag} {F H : Hp} {a : Addr} {xs : List V} (e : Sub F H) (h : SqT K F a xs) : SqT K H a xs := h.elim (fun h => .inl (e.rd h)) .inr
mutual
theorem Rp.mono {K : PySem.W.Frag} {F H : Hp} (e : Sub F H) : ∀ {v : V} {d : D}, Rp K F v d → Rp K H v d
  | _, _, .non => .non
  | _, _, .bl b => .bl b
  | _, _, .int i => .int i
  | _, _, .str x => .str x
  | _, _, .fn x => .fn x
  | _, _, .ty n => .ty n
  | _, _, .lst h t => .lst (e _ _ h) (RpAll.mono e t)
  | _, _, .tup h t => .tup (e.st h) (RpAll.mono e t)
  | _, _, .dK h => .dK (e _ _ h)
  | _, _, .dT ⟨od, h⟩ => .dT ⟨od, e _ _ h⟩
  | _, _, .arr h => .arr (e.sl h)
  | _, _, .pro ⟨o, h1, h2, h3⟩ => .pro ⟨o, h1, h2, e _ _ h3⟩
  | _, _, .adr a => .adr a
  | _, _, .tab h1 h2 h3 t => .tab h1 (e _ _ h2) h3 (RpAll.mono e t)
  | _, _, .pw h => .pw (e _ _ h)
  | _, _, .frm ⟨o, h1, h2, h3⟩ t => .frm ⟨o, h1, h2, e _ _ h3⟩ (RpAll.mono e t)
theorem RpAll.mono {K : PySem.W.Frag} {F H : Hp} (e : Sub F H) : ∀ {vs : List V} {ds : List D}, RpAll K F vs ds → RpAll K H vs ds
  | _, _, .nil => .nil
  | _, _, .cons h t => .cons (Rp.mono e h) (RpAll.mono e t)
end
section
variable {K : PySem.W.Frag} {F H : Hp}
theorem RpAll.length : ∀ {vs : List V} {ds : List D}, RpAll K F vs ds → vs.length = ds.length
  | _, _, .nil => rfl
  | _, _, .cons _ t => by rw [List.length_cons, List.length_cons, RpAll.length t]
theorem RpAll.get : ∀ {vs : List V} {ds : List D} {i : Nat} {d : D}, RpAll K F vs ds → ds[i]? = some d → ∃ v, vs[i]? = some v ∧ Rp K F v d
  | _, _, _, _, .nil, e => by simp at e
  | _, _, 0, _, .cons h _, e => by
    simp at e; subst e; exact ⟨_, rfl, h⟩
  | _, _, i + 1, d, .cons _ t, e => by
    obtain ⟨v, h1, h2⟩ := RpAll.get (i := i) (d := d) t (by simpa using e)
    exact ⟨v, by simpa using h1, h2⟩
theorem RpAll.append : ∀ {vs ws : List V} {ds es : List D}, RpAll K F vs ds → RpAll K F ws es → RpAll K F (vs ++ ws) (ds ++ es)
  | _, _, _, _, .nil, s => s
  | _, _, _, _, .cons h t, s => .cons h (RpAll.append t s)
theorem RpAll.take : ∀ {vs : List V} {ds : List D} (n : Nat), RpAll K F vs ds → RpAll K F (vs.take n) (ds.take n)
  | _, _, 0, _ => by simp; exact .nil
  | _, _, _ + 1, .nil => .nil
  | _, _, n + 1, .cons h t => .cons h (RpAll.take n t)
theorem RpAll.drop : ∀ {vs : List V} {ds : List D} (n : Nat), RpAll K F vs ds → RpAll K F (vs.drop n) (ds.drop n)
  | _, _, 0, r => r
  | _, _, _ + 1, .nil => .nil
  | _, _, n + 1, .cons _ t => RpAll.drop n t
theorem RpAll.ints : ∀ (ns : List Int), RpAll K F (ns.map V.int) (ns.map D.int)
  | [] => .nil
  | n :: ns => .cons (.int n) (RpAll.ints ns)
end

/-- the frozen part F of H -/
structure Fz (F H : Hp) : Prop where
  sub : Sub F H
  nt : ∀ a ps, F a ≠ some (.tbl ps)
/-- a table, or a tuple (which no one changes) -/
def Sd (o : HO) : Prop := (∃ ps, o = .tbl ps) ∨ ∃ xs, o = .tup xs
/-- from (F, H) to (F', H') -/
structure Nx (T : List (Addr × Str)) (F H F' H' : Hp) : Prop where
  f : Sub F F'
  z : Fz F' H'
  h : ExtN H H'
  new : ∀ a o, F' a = some o → F a = some o ∨ ∀ o', H a = some o' → Sd o'
  tab : Tabs T H → Tabs T H'
section
variable {T : List (Addr × Str)} {F H F1 H1 F2 H2 : Hp}
theorem Nx.refl (z : Fz F H) : Nx T F H F H := ⟨Sub.refl F, z, ExtN.refl H, fun _ _ h => .inl h, fun h => h⟩
theorem Nx.trans (a : Nx T F H F1 H1) (b : Nx T F1 H1 F2 H2) : Nx T F H F2 H2 where
  f := a.f.trans b.f
  z := b.z
  h := a.h.trans b.h
  new := fun x o e => by
    rcases b.new x o e with h | h
    · exact a.new x o h
    · refine .inr fun o' e' => ?_
      by_cases q : ∃ ps, o' = .tbl ps
      · exact .inl q
      · exact h o' (a.h x o' e' fun ps z => q ⟨ps, z⟩)
  tab := fun h => b.tab (a.tab h)
/-- a new object that is frozen from its begin -/
theorem Nx.push {p : Addr} {o : HO} (z : Fz F H) (hp : H p = none) (ho : ∀ ps, o ≠ .tbl ps) : Nx T F H (upd F p o) (upd H p o) := by
  have fp : F p = none := by
    cases q : F p with
    | none => rfl
    | some u =>
      have := z.sub _ _ q
      rw [hp] at this; cases this
  refine ⟨fun a u e => ?_, ⟨fun a u e => ?_, fun a ps e => ?_⟩, fun b u e _ => ?_, fun a u e => ?_, fun t => t.ext fun b u e => ?_⟩
  · rw [upd_ne (ne_of_none e fp)]; exact e
  · by_cases h : a = p
    · subst h; rw [upd_same] at e ⊢; exact e
    · rw [upd_ne h] at e ⊢; exact z.sub _ _ e
  · by_cases h : a = p
    · subst h; rw [upd_same] at e; exact ho ps (Option.some.inj e)
    · rw [upd_ne h] at e; exact z.nt _ _ e
  · rw [upd_ne (ne_of_none e hp)]; exact e
  · by_cases h : a = p
    · subst h; exact .inr fun o' e' => by rw [hp] at e'; cases e'
    · rw [upd_ne h] at e; exact .inl e
  · rw [upd_ne (ne_of_none e hp)]; exact e
/-- a new object that is not frozen -/
theorem Nx.lay {p : Addr} {o : HO} (z : Fz F H) (hp : H p = none) : Nx T F H F (upd H p o) := by
  refine ⟨Sub.refl F, ⟨fun a u e => ?_, z.nt⟩, fun b u e _ => ?_, fun a u e => .inl e, fun t => t.ext fun b u e => ?_⟩
  · rw [upd_ne (ne_of_none (z.sub _ _ e) hp)]; exact z.sub _ _ e
  · rw [upd_ne (ne_of_none e hp)]; exact e
  · rw [upd_ne (ne_of_none e hp)]; exact e
theorem Nx.keep (n : Nx T F H F1 H1) {a : Addr} {o : HO} (e : H a = some o) (ho : ∀ ps, o ≠ .tbl ps) : H1 a = some o := n.h a o e ho
theorem Nx.out (n : Nx T F H F1 H1) {a : Addr} {o : HO} (e : H a = some o) (ho : ∀ ps, o ≠ .tbl ps) (hf : F a = none) (hx : ∀ xs, o ≠ .tup xs := by intro _ z; cases z) : F1 a = none := by
  cases q : F1 a with
  | none => rfl
  | some u =>
    rcases n.new a u q with h | h
    · rw [hf] at h; cases h
    · rcases h o e with ⟨ps, z⟩ | ⟨xs, z⟩
      · exact absurd z (ho ps)
      · exact absurd z (hx xs)
end

/-- a slot: nothing is known; frozen data; an object of the frame's own -/
inductive En where
  | u | z (d : D) | o (d : D)
abbrev Rho := List En
/-! dicts of nested keys -/
mutual
def D.key : D → Option NestedKey
  | .non => some .none
  | .bl b => some (.num (if b = true then 1 else 0))
  | .int i => some (.num i)
  | .str x => some (.text x)
  | .tup ds => (D.keys ds).map .tup
  | _ => none
def D.keys : List D → Option (List NestedKey)
  | [] => some []
  | d :: ds => (D.key d).bind fun k => (D.keys ds).map fun ks => k :: ks
end
def EntR (p : NestedKey × Addr × V) (q : NestedKey × Addr × Value) : Prop := p.1 = q.1 ∧ p.2.1 = q.2.1 ∧ RelV p.2.2 q.2.2
/-- the dict at a: its keys (the tuples' addresses) and values -/
def DicO (P : Program) (w : World) (a : Addr) (es : List (NestedKey × Addr × V)) : HO := .ext fun h => (a == sysModules) = false ∧ es.length ≤ sizeLine ∧ ∃ xs : List (NestedKey × Addr × Value), Paired EntR es xs ∧
  ∃ o ents ep, h.get? a = some o ∧ o.ExactDict ∧ o.data = .dict ents ep ∧ ents.toList = xs.map (entryOfKey (nestedKind P w)) ∧ (xs.map (·.1)).Nodup
inductive DicR (K : PySem.W.Frag) (F : Hp) : List (NestedKey × Addr × V) → List D → List D → Prop
  | nil : DicR K F [] [] []
  | cons {n : NestedKey} {a : Addr} {v : V} {es : List (NestedKey × Addr × V)} {k d : D} {ks vs : List D} : k.key = some n → n.depth ≤ 8 → Rp K F (.ref a) k → Rp K F v d → DicR K F es ks vs → DicR K F ((n, a, v) :: es) (k :: ks) (d :: vs)
theorem DicR.mono {K : PySem.W.Frag} {F F' : Hp} (e : Sub F F') {es : List (NestedKey × Addr × V)} {ks vs : List D} (h : DicR K F es ks vs) : DicR K F' es ks vs := by
  induction h with
  | nil => exact .nil
  | cons h1 h2 h3 h4 _ ih => exact .cons h1 h2 (h3.mono e) (h4.mono e) ih
/-- the object at p, not frozen, is d -/
def OwnAt (K : PySem.W.Frag) (F H : Hp) (p : Addr) : D → Prop
  | .lst ds => ∃ xs, H p = some (.lst xs) ∧ RpAll K F xs ds
  | .dK kvs => H p = some (.dK kvs)
  | .dT kvs => H p = some (.dT kvs)
  | .dic P w ks vs => ∃ es, H p = some (DicO P w p es) ∧ DicR K F es ks vs
  | .ins c ns vs => ∃ dx ws, H p = some (.ins (He.ga K c) dx (ns.zip ws)) ∧ RpAll K F ws vs
  | _ => False
theorem OwnAt.solid {K : PySem.W.Frag} {F H : Hp} {p : Addr} : ∀ {d : D}, OwnAt K F H p d → ∃ o, H p = some o ∧ ∀ ps, o ≠ .tbl ps
  | .lst ds, ⟨xs, h, _⟩ => ⟨_, h, fun ps z => by cases z⟩
  | .dK kvs, h => ⟨_, h, fun ps z => by cases z⟩
  | .dT kvs, h => ⟨_, h, fun ps z => by cases z⟩
  | .dic P w ks vs, ⟨es, h, _⟩ => ⟨_, h, fun ps z => by unfold DicO at z; cases z⟩
  | .ins c ns vs, ⟨dx, ws, h, _⟩ => ⟨_, h, fun ps z => by cases z⟩
  | .non, h => h.elim
  | .bl _, h => h.elim
  | .int _, h => h.elim
  | .str _, h => h.elim
  | .tup _, h => h.elim
  | .fn _, h => h.elim
  | .ty _, h => h.elim
  | .arr _, h => h.elim
  | .pro _, h => h.elim
  | .adr _, h => h.elim
  | .tab _ _ _, h => h.elim
theorem OwnAt.notTup {K : PySem.W.Frag} {F H : Hp} {p : Addr} {d : D} {xs : List V} (h : OwnAt K F H p d) (e : H p = some (.tup xs)) : False := by
  cases d with
  | lst ds => obtain ⟨ys, q, _⟩ := h; rw [e] at q; cases q
  | dK kvs => have q : H p = some (.dK kvs) := h; rw [e] at q; cases q
  | dT kvs => have q : H p = some (.dT kvs) := h; rw [e] at q; cases q
  | dic P w ks vs => obtain ⟨es, q, _⟩ := h; rw [e] at q; unfold DicO at q; cases q
  | ins c ns vs => obtain ⟨dx, ws, q, _⟩ := h; rw [e] at q; cases q
  | _ => exact h
theorem OwnAt.mono {K : PySem.W.Frag} {T : List (Addr × Str)} {F H F' H' : Hp} {p : Addr} (n : Nx T F H F' H') : ∀ {d : D}, OwnAt K F H p d → OwnAt K F' H' p d
  | .lst ds, ⟨xs, h, r⟩ => ⟨xs, n.keep h fun ps z => (by cases z), RpAll.mono n.f r⟩
  | .dK kvs, h => n.keep h fun ps z => (by cases z)
  | .dT kvs, h => n.keep h fun ps z => (by cases z)
  | .dic P w ks vs, ⟨es, h, r⟩ => ⟨es, n.keep h fun ps z => (by unfold DicO at z; cases z), r.mono n.f⟩
  | .ins c ns vs, ⟨dx, ws, h, r⟩ => ⟨dx, ws, n.keep h fun ps z => (by cases z), r.mono n.f⟩
  | .non, h => h.elim
  | .bl _, h => h.elim
  | .int _, h => h.elim
  | .str _, h => h.elim
  | .tup _, h => h.elim
  | .fn _, h => h.elim
  | .ty _, h => h.elim
  | .arr _, h => h.elim
  | .pro _, h => h.elim
  | .adr _, h => h.elim
  | .tab _ _ _, h => h.elim
structure Rl (K : PySem.W.Frag) (F H : Hp) (σ : L2.St) (ρ : Rho) : Prop where
  len : σ.length = ρ.length
  z : ∀ (i : Nat) (d : D), ρ[i]? = some (En.z d) → ∃ v, σ[i]? = some (some v) ∧ Rp K F v d
  o : ∀ (i : Nat) (d : D), ρ[i]? = some (En.o d) → ∃ p, σ[i]? = some (some (V.ref p)) ∧ F p = none ∧ OwnAt K F H p d
  ne : ∀ (i j : Nat) (d e : D) (p q : Addr), i ≠ j → ρ[i]? = some (En.o d) → ρ[j]? = some (En.o e) → σ[i]? = some (some (V.ref p)) → σ[j]? = some (some (V.ref q)) → p ≠ q
section
variable {K : PySem.W.Frag} {T : List (Addr × Str)} {F H F' H' : Hp} {σ : L2.St} {ρ : Rho}
theorem Rl.mono (n : Nx T F H F' H') (r : Rl K F H σ ρ) : Rl K F' H' σ ρ where
  len := r.len
  z := fun i d e => let ⟨v, h1, h2⟩ := r.z i d e; ⟨v, h1, h2.mono n.f⟩
  o := fun i d e => by
    obtain ⟨p, h1, h2, h3⟩ := r.o i d e
    obtain ⟨o, h4, h5⟩ := h3.solid
    exact ⟨p, h1, n.out h4 h5 h2 (fun xs z => h3.notTup (by rw [h4, z])), h3.mono n⟩
  ne := r.ne
theorem Rl.set {i : Nat} {v : V} {d : D} (r : Rl K F H σ ρ) (h : Rp K F v d) : Rl K F H (σ.set i (some v)) (ρ.set i (.z d)) where
  len := by rw [List.length_set, List.length_set]; exact r.len
  z := fun j e hj => by
    rw [List.getElem?_set] at hj ⊢
    by_cases hij : i = j
    · subst hij
      rw [if_pos rfl] at hj ⊢
      by_cases hl : i < ρ.length
      · rw [if_pos hl] at hj
        rw [if_pos (by rw [r.len]; exact hl)]
        cases hj
        exact ⟨v, rfl, h⟩
      · rw [if_neg hl] at hj; cases hj
    · rw [if_neg hij] at hj ⊢
      exact r.z j e hj
  o := fun j e hj => by
    rw [List.getElem?_set] at hj ⊢
    by_cases hij : i = j
    · subst hij
      rw [if_pos rfl] at hj
      by_cases hl : i < ρ.length
      · rw [if_pos hl] at hj; cases hj
      · rw [if_neg hl] at hj; cases hj
    · rw [if_neg hij] at hj ⊢
      exact r.o j e hj
  ne := fun j k a b p q hn h1 h2 h3 h4 => by
    rw [List.getElem?_set] at h1 h2 h3 h4
    have fj : i ≠ j := fun z => by
      rw [if_pos z] at h1; split at h1 <;> cases h1
    have fk : i ≠ k := fun z => by
      rw [if_pos z] at h2; split at h2 <;> cases h2
    rw [if_neg fj] at h1 h3
    rw [if_neg fk] at h2 h4
    exact r.ne j k a b p q hn h1 h2 h3 h4
end

/-! ### readings by functions of data -/
/-- what is wanted behind: of an α that stands for the β -/
def aft {α β : Type} (R : Hp → α → β → Prop) (K : PySem.W.Frag) (T : List (Addr × Str)) (W : WX) (σ : L2.St) (F H : Hp) (Q : α → Hp → Prop) : Res β → Prop
  | .ok b => ∀ a F' H', Nx T F H F' H' → R F' a b → Q a H'
  | .ex n => ∀ F' H', Nx T F H F' H' → W (.ref (He.ga K n)) none σ H'
  | .bad => False
abbrev RBool : Hp → Bool → Bool → Prop := fun _ a b => a = b
/-- where one stands -/
structure At (K : PySem.W.Frag) (T : List (Addr × Str)) (F H : Hp) (σ : L2.St) (ρ : Rho) : Prop where
  z : Fz F H
  t : Tabs T H
  r : Rl K F H σ ρ
theorem At.nx {K : PySem.W.Frag} {T : List (Addr × Str)} {F H F' H' : Hp} {σ : L2.St} {ρ : Rho} (a : At K T F H σ ρ) (n : Nx T F H F' H') : At K T F' H' σ ρ := ⟨n.z, n.tab a.t, a.r.mono n⟩
def tG {α β : Type} (R : PySem.W.Frag → Hp → α → β → Prop) (K : PySem.W.Frag) (T : List (Addr × Str)) (W : WX) (f : Rho → Res β) : L2.St → Hp → (α → Hp → Prop) → Prop :=
  fun σ H Q => ∃ ρ F, At K T F H σ ρ ∧ aft (R K) K T W σ F H Q (f ρ)
def tE (K : PySem.W.Frag) (T : List (Addr × Str)) (W : WX) (f : Rho → Res D) : TE := tG Rp K T W f
def tA (K : PySem.W.Frag) (T : List (Addr × Str)) (W : WX) (f : Rho → Res (List D)) : TA := tG RpAll K T W f
def tT (K : PySem.W.Frag) (T : List (Addr × Str)) (W : WX) (f : Rho → Res Bool) : TT := tG (fun _ => RBool) K T W f
section
variable {K : PySem.W.Frag} {T : List (Addr × Str)} {W : WX} {σ : L2.St} {F H F' H' : Hp}
theorem aft.mono {α β : Type} {R : Hp → α → β → Prop} {Q : α → Hp → Prop} {r : Res β} (n : Nx T F H F' H') (h : aft R K T W σ F H Q r) : aft R K T W σ F' H' Q r := by
  cases r with
  | ok b => exact fun a F2 H2 n2 ra => h a F2 H2 (n.trans n2) ra
  | ex m => exact fun F2 H2 n2 => h F2 H2 (n.trans n2)
  | bad => exact h
theorem aft.imp {α β : Type} {R : Hp → α → β → Prop} {Q Q' : α → Hp → Prop} {r : Res β} (h : aft R K T W σ F H Q r) (hq : ∀ b, r = .ok b → ∀ a F' H', Nx T F H F' H' → R F' a b → Q a H' → Q' a H') : aft R K T W σ F H Q' r := by
  cases r with
  | ok b => exact fun a F2 H2 n ra => hq b rfl a F2 H2 n ra (h a F2 H2 n ra)
  | ex m => exact h
  | bad => exact h
/-- one thing behind another -/
theorem aft.bind {α β γ δ : Type} {R : Hp → α → β → Prop} {S : Hp → γ → δ → Prop} {Q : γ → Hp → Prop} {r : Res β} {k : β → Res δ} (h : aft S K T W σ F H Q (r.bind k)) :
    aft R K T W σ F H (fun a H1 => ∃ b F1, r = .ok b ∧ Nx T F H F1 H1 ∧ R F1 a b ∧ aft S K T W σ F1 H1 Q (k b)) r := by
  cases r with
  | ok b => exact fun a F2 H2 n ra => ⟨b, F2, rfl, n, ra, aft.mono n h⟩
  | ex m => exact h
  | bad => exact h
theorem aft.ok {α β : Type} {R : Hp → α → β → Prop} {Q : α → Hp → Prop} {b : β} {a : α} {F1 H1 : Hp} (h : aft R K T W σ F H Q (.ok b)) (n : Nx T F H F1 H1) (ra : R F1 a b) : Q a H1 := h a F1 H1 n ra
end
/-- a judgement is weakened -/
theorem _root_.L2.PE.to {X : Cx} {e : Expr} {t u : TE} (h : PE X e t) (k : ∀ σ H Q, u σ H Q → t σ H Q) : PE X e u := ⟨fun pins s σ H Q I q => h.run pins s σ H Q I (k σ H Q q)⟩
theorem _root_.L2.PT.to {X : Cx} {e : Expr} {t u : TT} (h : PT X e t) (k : ∀ σ H Q, u σ H Q → t σ H Q) : PT X e u := ⟨fun pins s σ H Q I q => h.run pins s σ H Q I (k σ H Q q)⟩
theorem _root_.L2.PW.to {X : Cx} {e : Expr} {t u : TT} (h : PW X e t) (k : ∀ σ H Q, u σ H Q → t σ H Q) : PW X e u := ⟨fun whole pins s σ H Q I q => h.run whole pins s σ H Q I (k σ H Q q)⟩
theorem _root_.L2.PA.to {X : Cx} {es : List Expr} {t u : TA} (h : PA X es t) (k : ∀ σ H Q, u σ H Q → t σ H Q) : PA X es u := ⟨fun pos pins s σ H Q I q => h.run pos pins s σ H Q I (k σ H Q q)⟩
theorem _root_.L2.PS.to {X : Cx} {st : Stmt} {t u : TS} (h : PS X st t) (k : ∀ D σ H, u D σ H → t D σ H) : PS X st u := ⟨fun pins s σ H D I q => h.run pins s σ H D I (k D σ H q)⟩
theorem _root_.L2.PSs.to {X : Cx} {st : List Stmt} {t u : TS} (h : PSs X st t) (k : ∀ D σ H, u D σ H → t D σ H) : PSs X st u := ⟨fun pins s σ H D I q => h.run pins s σ H D I (k D σ H q)⟩

/-! ### names, constants, arguments -/
section
variable {X : Cx} {T : List (Addr × Str)} {W : WX}
abbrev DE (X : Cx) (T : List (Addr × Str)) (W : WX) (e : Expr) (f : Rho → Res D) : Prop := PE X e (tE X.K T W f)
abbrev DQ (X : Cx) (T : List (Addr × Str)) (W : WX) (e : Expr) (f : Rho → Res Bool) : Prop := PT X e (tT X.K T W f)
abbrev DW (X : Cx) (T : List (Addr × Str)) (W : WX) (e : Expr) (f : Rho → Res Bool) : Prop := PW X e (tT X.K T W f)
abbrev DA (X : Cx) (T : List (Addr × Str)) (W : WX) (es : List Expr) (f : Rho → Res (List D)) : Prop := PA X es (tA X.K T W f)

def var (i : Nat) : Rho → Res D := fun ρ => match ρ[i]? with
  | some (.z d) => .ok d
  | _ => .bad
theorem e_var {i : Nat} {x : Str} {pos : Pos} (h : PE X (.Name x pos) (tVar i)) : DE X T W (.Name x pos) (var i) := h.to fun σ H Q hq => by
  obtain ⟨ρ, F, a, h⟩ := hq
  unfold var at h
  cases e : ρ[i]? with
  | none => rw [e] at h; exact h.elim
  | some en =>
    rw [e] at h
    cases en with
    | u => exact h.elim
    | o d => exact h.elim
    | z d =>
      obtain ⟨v, h1, h2⟩ := a.r.z i d e
      exact ⟨v, h1, h v F H (Nx.refl a.z) h2⟩
def con (d : D) : Rho → Res D := fun _ => .ok d
theorem e_c {e : Expr} {v : V} {d : D} (h : PE X e (tC v)) (r : ∀ F, Rp X.K F v d) : DE X T W e (con d) := h.to fun σ H Q ⟨ρ, F, a, h⟩ => h v F H (Nx.refl a.z) (r F)
theorem e_int {i j pos} : DE X T W (.Constant (.int i) j pos) (con (.int i)) := e_c pe_int fun _ => .int i
theorem e_bl {b j pos} : DE X T W (.Constant (.bool b) j pos) (con (.bl b)) := e_c pe_bl fun _ => .bl b
theorem e_non {j pos} : DE X T W (.Constant .none j pos) (con .non) := e_c pe_non fun _ => .non
theorem e_str {x j pos} : DE X T W (.Constant (.str x) j pos) (con (.str x)) := e_c pe_str fun _ => .str x

def anil : Rho → Res (List D) := fun _ => .ok []
def acons (f : Rho → Res D) (g : Rho → Res (List D)) : Rho → Res (List D) := fun ρ => (f ρ).bind fun d => (g ρ).bind fun ds => .ok (d :: ds)
theorem a_nil : DA X T W [] anil := pa_nil.to fun σ H Q ⟨ρ, F, a, h⟩ => h [] F H (Nx.refl a.z) .nil
theorem a_cons {e : Expr} {es : List Expr} {f : Rho → Res D} {g : Rho → Res (List D)} (he : DE X T W e f) (hs : DA X T W es g) (hstar : starEach (e :: es) X.env = (false, eval e X.env) :: starEach es X.env := by rfl) : DA X T W (e :: es) (acons f g) :=
  (pa_cons he hs hstar).to fun σ H Q ⟨ρ, F, a, h⟩ => by
    refine ⟨ρ, F, a, (aft.bind (R := Rp X.K) h).imp fun d _ v F1 H1 _ _ q => ?_⟩
    obtain ⟨b, F2, _, n, rv, q⟩ := q
    refine ⟨ρ, F2, a.nx n, (aft.bind (R := RpAll X.K) q).imp fun ds _ vs F3 H3 _ _ q => ?_⟩
    obtain ⟨ds', F4, _, n2, rs, q⟩ := q
    exact q.ok (Nx.refl n2.z) (.cons (rv.mono n2.f) rs)
end
end DN
namespace DN
open PySem PySem.Spec PyProof.Rows L2
open LamX (Tabs ExtN)
open PySem.Builtin.Str (tooLong)

/-! ### operators -/
/-- an operation on values, by a function of data -/
def rD2 (K : PySem.W.Frag) (T : List (Addr × Str)) (G : D → D → Option D) : R2 := fun x y H Q =>
  ∃ F d e z, Fz F H ∧ Rp K F x d ∧ Rp K F y e ∧ G d e = some z ∧ ∀ v F' H', Nx T F H F' H' → Rp K F' v z → Q v H'
def rD1 (K : PySem.W.Frag) (T : List (Addr × Str)) (G : D → Option D) : V → Hp → VK → Prop := fun x H Q =>
  ∃ F d z, Fz F H ∧ Rp K F x d ∧ G d = some z ∧ ∀ v F' H', Nx T F H F' H' → Rp K F' v z → Q v H'
def rDn (K : PySem.W.Frag) (T : List (Addr × Str)) (G : List D → Option D) : List V → Hp → VK → Prop := fun xs H Q =>
  ∃ F ds z, Fz F H ∧ RpAll K F xs ds ∧ G ds = some z ∧ ∀ v F' H', Nx T F H F' H' → Rp K F' v z → Q v H'
def bop (G : D → D → Option D) (f g : Rho → Res D) : Rho → Res D := fun ρ => (f ρ).bind fun d => (g ρ).bind fun e => ofO (G d e)
def una (G : D → Option D) (f : Rho → Res D) : Rho → Res D := fun ρ => (f ρ).bind fun d => ofO (G d)
def cal (G : List D → Option D) (f : Rho → Res (List D)) : Rho → Res D := fun ρ => (f ρ).bind fun ds => ofO (G ds)
section
variable {X : Cx} {T : List (Addr × Str)} {W : WX}
theorem ofO_ok {α : Type} {o : Option α} {K : PySem.W.Frag} {σ : L2.St} {F H : Hp} {β : Type} {R : Hp → β → α → Prop} {Q : β → Hp → Prop} (h : aft R K T W σ F H Q (ofO o)) : ∃ a, o = some a ∧ ∀ b F' H', Nx T F H F' H' → R F' b a → Q b H' := by
  cases o with
  | none => exact h.elim
  | some a => exact ⟨a, rfl, h⟩
theorem bin_to {K : PySem.W.Frag} {G : D → D → Option D} {f g : Rho → Res D} {σ : L2.St} {H : Hp} {Q : VK} (h : tE K T W (bop G f g) σ H Q) : tOp (rD2 K T G) (tE K T W f) (tE K T W g) σ H Q := by
  obtain ⟨ρ, F, a, h⟩ := h
  refine ⟨ρ, F, a, (aft.bind (R := Rp K) h).imp fun d _ v F1 H1 _ _ q => ?_⟩
  obtain ⟨b, F2, _, n, rv, q⟩ := q
  refine ⟨ρ, F2, a.nx n, (aft.bind (R := Rp K) q).imp fun ds _ vs F3 H3 _ _ q => ?_⟩
  obtain ⟨e, F4, _, n2, rs, q⟩ := q
  obtain ⟨z, hz, q⟩ := ofO_ok q
  exact ⟨F4, b, e, z, n2.z, rv.mono n2.f, rs, hz, q⟩
theorem e_bin {op : Operator} {G : D → D → Option D} {a b : Expr} {f g : Rho → Res D} {pos : Pos} (ho : OpR X (binaryOp op) (rD2 X.K T G)) (ha : DE X T W a f) (hb : DE X T W b g) : DE X T W (.BinOp a op b pos) (bop G f g) :=
  (pe_op ho ha hb).to fun _ _ _ h => bin_to h
theorem e_una {op : UnaryOp} {G : D → Option D} {a : Expr} {f : Rho → Res D} {pos : Pos} (ho : UnR X (unaryOp op) (rD1 X.K T G)) (ha : DE X T W a f) : DE X T W (.UnaryOp op a pos) (una G f) :=
  (pe_un ho ha).to fun σ H Q ⟨ρ, F, a, h⟩ => by
    refine ⟨ρ, F, a, (aft.bind (R := Rp X.K) h).imp fun d _ v F1 H1 _ _ q => ?_⟩
    obtain ⟨b, F2, _, n, rv, q⟩ := q
    obtain ⟨z, hz, q⟩ := ofO_ok q
    exact ⟨F2, b, z, n.z, rv, hz, q⟩
theorem e_cmp {op : CmpOp} {G : D → D → Option D} {a b : Expr} {f g : Rho → Res D} {pos : Pos} (ho : OpR X (compareOp op) (rD2 X.K T G)) (ha : DE X T W a f) (hb : DE X T W b g) (hm : behindInMarks op b = false) : DE X T W (.Compare a [op] [b] pos) (bop G f g) :=
  (pe_cmpR ho ha hb hm).to fun _ _ _ h => bin_to h
/-- a comparison's answer -/
def ans : D → Res Bool
  | .bl b => .ok b
  | _ => .bad
def tst (f : Rho → Res D) : Rho → Res Bool := fun ρ => (f ρ).bind ans
theorem tst_to {K : PySem.W.Frag} {f : Rho → Res D} {σ : L2.St} {H : Hp} {Q : Bool → Hp → Prop} (h : tT K T W (tst f) σ H Q) : tE K T W f σ H fun x H' => ∃ k, x = .bl k ∧ Q k H' := by
  obtain ⟨ρ, F, a, h⟩ := h
  refine ⟨ρ, F, a, (aft.bind (R := Rp K) h).imp fun d _ v F1 H1 _ _ q => ?_⟩
  obtain ⟨b, F2, _, n, rv, q⟩ := q
  cases b with
  | bl k =>
    cases rv
    exact ⟨k, rfl, q k F2 H1 (Nx.refl n.z) rfl⟩
  | _ => exact q.elim
theorem q_cmp {op : CmpOp} {G : D → D → Option D} {a b : Expr} {f g : Rho → Res D} {pos : Pos} (ho : OpR X (compareOp op) (rD2 X.K T G)) (ha : DE X T W a f) (hb : DE X T W b g) (hm : behindInMarks op b = false) : DQ X T W (.Compare a [op] [b] pos) (tst (bop G f g)) :=
  (pt_cmpR ho ha hb hm).to fun σ H Q h => by
    have h2 := tst_to h
    exact bin_to h2
end

/-! the operators' functions -/
def CMulD (i j : Int) : Prop := CMul i j ∨ CMulW i j
instance : Decidable (CMulD i j) := by unfold CMulD CMul CMulW; infer_instance
instance : Decidable (CDivW i j) := by unfold CDivW; infer_instance
def repS (x : Str) (n : Int) : Str := ⟨((List.replicate n.toNat x.cps.toList).flatten).toArray⟩
def addD : D → D → Option D
  | .int i, .int j => some (.int (i + j))
  | .str x, .str y => if x.length + y.length ≤ sizeLine then some (.str (x ++ y)) else none
  | .tup xs, .tup ys => if xs.length + ys.length ≤ sizeLine then some (.tup (xs ++ ys)) else none
  | .lst xs, .lst ys => if xs.length + ys.length ≤ sizeLine then some (.lst (xs ++ ys)) else none
  | _, _ => none
def subD : D → D → Option D
  | .int i, .int j => some (.int (i - j))
  | _, _ => none
def mulD : D → D → Option D
  | .int i, .int j => if CMulD i j then some (.int (i * j)) else none
  | .str x, .int n => if n ≤ 1000000 ∧ -1000000 ≤ n ∧ x.length * n.toNat ≤ 1000000 then some (.str (repS x n)) else none
  | .tup xs, .int k => if 2 ≤ k ∧ k ≤ 1000 ∧ xs.isEmpty = false ∧ xs.length ≤ 1000 then some (.tup (List.replicate k.toNat xs).flatten) else none
  | _, _ => none
def divD : D → D → Option D
  | .int i, .int j => if CDivW i j then some (.int (i / j)) else none
  | _, _ => none
def modD : D → D → Option D
  | .int i, .int j => if 0 < j then some (.int (i % j)) else none
  | _, _ => none
def negD : D → Option D
  | .int i => some (.int (-i))
  | _ => none
def ltD : D → D → Option D
  | .int i, .int j => some (.bl (decide (i < j)))
  | _, _ => none
def leD : D → D → Option D
  | .int i, .int j => some (.bl (decide (i ≤ j)))
  | _, _ => none
def gtD : D → D → Option D
  | .int i, .int j => some (.bl (decide (j < i)))
  | _, _ => none
def geD : D → D → Option D
  | .int i, .int j => some (.bl (decide (j ≤ i)))
  | _, _ => none
def isN : D → D → Option D
  | .non, .non => some (.bl true)
  | _, .non => some (.bl false)
  | _, _ => none
section
variable {X : Cx} {T : List (Addr × Str)} {W : WX}
theorem done0 {K : PySem.W.Frag} {F H : Hp} {z : D} {v : V} {Q : VK} (hz : Fz F H) (q : ∀ v F' H', Nx T F H F' H' → Rp K F' v z → Q v H') (r : Rp K F v z) : Q v H := q v F H (Nx.refl hz) r
theorem donep {K : PySem.W.Frag} {F H : Hp} {z : D} {p : Addr} {o : HO} {Q : VK} (hz : Fz F H) (hp : H p = none) (ho : ∀ ps, o ≠ .tbl ps) (q : ∀ v F' H', Nx T F H F' H' → Rp K F' v z → Q v H') (r : Rp K (upd F p o) (.ref p) z) : Q (.ref p) (upd H p o) :=
  q _ _ _ (Nx.push hz hp ho) r
theorem rp_tup {K : PySem.W.Frag} {F H : Hp} {p : Addr} {xs : List V} {ds : List D} (hz : Fz F H) (hp : H p = none) (r : RpAll K F xs ds) : Rp K (upd F p (.tup xs)) (.ref p) (.tup ds) :=
  .tup (.inl (.inl upd_same)) (r.mono (Nx.push (T := []) (o := .tup xs) hz hp (fun ps z => by cases z)).f)
theorem rp_lst {K : PySem.W.Frag} {F H : Hp} {p : Addr} {xs : List V} {ds : List D} (hz : Fz F H) (hp : H p = none) (r : RpAll K F xs ds) : Rp K (upd F p (.lst xs)) (.ref p) (.lst ds) :=
  .lst upd_same (r.mono (Nx.push (T := []) (o := .lst xs) hz hp (fun ps z => by cases z)).f)
theorem ntT {xs : List V} : ∀ ps, HO.tup xs ≠ .tbl ps := fun _ z => by cases z
theorem ntL {xs : List V} : ∀ ps, HO.lst xs ≠ .tbl ps := fun _ z => by cases z
theorem RpAll.nil_iff {K : PySem.W.Frag} {F : Hp} {xs : List V} {ds : List D} (r : RpAll K F xs ds) : xs = [] ↔ ds = [] := by
  cases r with
  | nil => simp
  | cons _ _ => simp
theorem o_add : OpR X (binaryOp .Add) (rD2 X.K T addD) := by
  intro pins s σ H x y v u Q I rx ry h
  obtain ⟨F, d, e, z, hz, rd, re, hG, q⟩ := h
  cases rd with
  | int i =>
    cases re with
    | int j => cases hG; exact op_add pins s σ H _ _ v u Q I rx ry ⟨i, j, rfl, rfl, done0 hz q (.int _)⟩
    | _ => cases hG
  | str i =>
    cases re with
    | str j =>
      have hG : (if i.length + j.length ≤ sizeLine then some (D.str (i ++ j)) else none) = some z := hG
      split at hG
      · rename_i hl
        cases hG
        exact op_add_str pins s σ H _ _ v u Q I rx ry ⟨i, j, rfl, rfl, hl, done0 hz q (.str _)⟩
      · cases hG
    | _ => cases hG
  | tup h1 r1 =>
    cases re with
    | tup h2 r2 =>
      rename_i a xs ds b ys es
      have hG : (if ds.length + es.length ≤ sizeLine then some (D.tup (ds ++ es)) else none) = some z := hG
      split at hG
      · rename_i hl
        cases hG
        refine op_catA pins s σ H _ _ v u Q I rx ry ⟨a, b, xs, ys, rfl, rfl, hz.sub.st h1, hz.sub.st h2, by rw [r1.length, r2.length]; exact hl, fun e => ?_, fun e1 e2 => ?_, fun e1 e2 p hp => ?_⟩
        · have e' := r1.nil_iff.mp e
          subst e'
          exact done0 hz q (.tup h2 r2)
        · have e' := r2.nil_iff.mp e2
          subst e'
          rw [List.append_nil] at q
          exact done0 hz q (.tup h1 r1)
        · exact donep hz hp ntT q (rp_tup hz hp (r1.append r2))
      · cases hG
    | _ => cases hG
  | lst h1 r1 =>
    cases re with
    | lst h2 r2 =>
      rename_i a xs ds b ys es
      have hG : (if ds.length + es.length ≤ sizeLine then some (D.lst (ds ++ es)) else none) = some z := hG
      split at hG
      · rename_i hl
        cases hG
        exact op_cat pins s σ H _ _ v u Q I rx ry ⟨a, b, xs, ys, rfl, rfl, hz.sub _ _ h1, hz.sub _ _ h2, by rw [r1.length, r2.length]; exact hl, fun p hp => donep hz hp ntL q (rp_lst hz hp (r1.append r2))⟩
      · cases hG
    | _ => cases hG
  | _ => cases hG
theorem o_sub : OpR X (binaryOp .Sub) (rD2 X.K T subD) := by
  intro pins s σ H x y v u Q I rx ry h
  obtain ⟨F, d, e, z, hz, rd, re, hG, q⟩ := h
  cases rd with
  | int i =>
    cases re with
    | int j => cases hG; exact op_sub pins s σ H _ _ v u Q I rx ry ⟨i, j, rfl, rfl, done0 hz q (.int _)⟩
    | _ => cases hG
  | _ => cases hG
theorem foldA (x : Array Nat) : ∀ (n : Nat) (acc : Array Nat), (List.replicate n x).foldl (· ++ ·) acc = (acc.toList ++ (List.replicate n x.toList).flatten).toArray
  | 0, acc => by simp
  | n + 1, acc => by
    rw [List.replicate_succ, List.foldl_cons, foldA x n]
    simp [List.replicate_succ]
theorem fold_rep (x : Array Nat) (n : Nat) : (List.replicate n x).foldl (· ++ ·) #[] = ((List.replicate n x.toList).flatten).toArray := by
  rw [foldA]; simp
theorem sizeLine_val : (sizeLine : Nat) = 16777216 := sizeLine_eq
theorem o_mul_str {pins : List (Addr × Obj)} {s : Shared} {σ : L2.St} {H : Hp} {Q : VK} {x : Str} {n : Int} {t u : Tok} (I : Inv X pins σ H s) (h1 : n ≤ 1000000) (h2 : -1000000 ≤ n) (h3 : x.length * n.toNat ≤ 1000000) (q : Q (.str (repS x n)) H) :
    wpAny (model X.prog X.w) X.A (binaryOp .Mult (.str x t) (.int n u)) (EP X pins σ Q) X.xe s := by
  have tl : tooLong (x.length * n.toNat) = false := by
    unfold tooLong
    refine decide_eq_false ?_
    rw [sizeLine_val]
    omega
  refine PySem.P.mul_str (by rw [decide_eq_false (by omega), decide_eq_false (by omega)]; rfl) (fun g1 g2 => ?_) (fun _ _ => tl) ?_
  · intro hgt
    have hx : x.length ≤ 1000000 := by
      have hn : 1 ≤ n.toNat := by omega
      have := Nat.mul_le_mul_left x.length hn
      omega
    have hd : (2 ^ 63 - 1) / 1000000 ≤ (2 ^ 63 - 1 : Int) / n := by
      apply Int.le_ediv_of_mul_le (by omega)
      have : ((2 ^ 63 - 1 : Int) / 1000000) * n ≤ ((2 ^ 63 - 1 : Int) / 1000000) * 1000000 := Int.mul_le_mul_of_nonneg_left h1 (by decide)
      exact Int.le_trans this (by decide)
    have h0 : (1000000 : Int) ≤ (2 ^ 63 - 1) / 1000000 := by decide
    omega
  · by_cases g1 : n < 1
    · rw [if_pos g1]
      have e : repS x n = Str.empty := by
        unfold repS
        rw [show n.toNat = 0 by omega] <;> rfl
      rw [e] at q
      exact ⟨by decide, ⟨.str Str.empty, H, I.tok _, ⟨_, rfl⟩, q⟩⟩
    · rw [if_neg g1]
      by_cases g2 : (n == 1 || x.length == 0) = true
      · rw [if_pos g2]
        have e : repS x n = x := by
          unfold repS
          rw [Bool.or_eq_true, beq_iff_eq, beq_iff_eq] at g2
          rcases g2 with g | g
          · subst g
            show (⟨(([x.cps.toList] : List (List Nat)).flatten).toArray⟩ : Str) = x
            simp
          · have : x.cps = #[] := Array.eq_empty_of_size_eq_zero g
            cases x
            simp only at this
            subst this
            simp
        rw [e] at q
        exact ⟨.str x, H, I, ⟨_, rfl⟩, q⟩
      · rw [if_neg g2, fold_rep]
        refine ⟨?_, ⟨.str (repS x n), H, I.tok _, ⟨_, rfl⟩, q⟩⟩
        rw [sizeLine_val]
        show ((List.replicate n.toNat x.cps.toList).flatten).toArray.size ≤ _
        rw [List.size_toArray, List.length_flatten]
        simp
        have e : n.toNat * x.cps.size = x.length * n.toNat := Nat.mul_comm _ _
        rw [e]
        omega
theorem o_mul : OpR X (binaryOp .Mult) (rD2 X.K T mulD) := by
  intro pins s σ H x y v u Q I rx ry h
  obtain ⟨F, d, e, z, hz, rd, re, hG, q⟩ := h
  cases rd with
  | int i =>
    cases re with
    | int j =>
      have hG : (if CMulD i j then some (D.int (i * j)) else none) = some z := hG
      split at hG
      · rename_i hc
        cases hG
        rcases hc with hc | hc
        · exact op_mul pins s σ H _ _ v u Q I rx ry ⟨i, j, rfl, rfl, hc, done0 hz q (.int _)⟩
        · exact op_mulW pins s σ H _ _ v u Q I rx ry ⟨i, j, rfl, rfl, hc, done0 hz q (.int _)⟩
      · cases hG
    | _ => cases hG
  | str x =>
    cases re with
    | int n =>
      have hG : (if n ≤ 1000000 ∧ -1000000 ≤ n ∧ x.length * n.toNat ≤ 1000000 then some (D.str (repS x n)) else none) = some z := hG
      split at hG
      · rename_i hc
        cases hG
        obtain ⟨t, rfl⟩ := rx
        obtain ⟨t', rfl⟩ := ry
        exact o_mul_str I hc.1 hc.2.1 hc.2.2 (done0 hz q (.str _))
      · cases hG
    | _ => cases hG
  | tup h1 r1 =>
    cases re with
    | int k =>
      rename_i a xs ds
      have hG : (if 2 ≤ k ∧ k ≤ 1000 ∧ ds.isEmpty = false ∧ ds.length ≤ 1000 then some (D.tup (List.replicate k.toNat ds).flatten) else none) = some z := hG
      split at hG
      · rename_i hc
        cases hG
        obtain ⟨c1, c2, c3, c4⟩ := hc
        have many : ∀ n, RpAll X.K F (List.replicate n xs).flatten (List.replicate n ds).flatten := fun n => by
          induction n with
          | zero => exact .nil
          | succ n ih => simpa [List.replicate_succ] using r1.append ih
        have some_ : xs ≠ [] := fun z => by
          subst z
          cases r1
          cases c3
        exact op_repT pins s σ H _ _ v u Q I rx ry ⟨a, k, xs, rfl, rfl, hz.sub.st h1, some_, c1, c2, by rw [r1.length]; exact c4, fun p hp => donep hz hp ntT q (rp_tup hz hp (many _))⟩
      · cases hG
    | _ => cases hG
  | _ => cases hG
theorem o_div : OpR X (binaryOp .FloorDiv) (rD2 X.K T divD) := by
  intro pins s σ H x y v u Q I rx ry h
  obtain ⟨F, d, e, z, hz, rd, re, hG, q⟩ := h
  cases rd with
  | int i =>
    cases re with
    | int j =>
      have hG : (if CDivW i j then some (D.int (i / j)) else none) = some z := hG
      split at hG
      · rename_i hc
        cases hG
        exact op_fdivW pins s σ H _ _ v u Q I rx ry ⟨i, j, rfl, rfl, hc, done0 hz q (.int _)⟩
      · cases hG
    | _ => cases hG
  | _ => cases hG
theorem o_mod : OpR X (binaryOp .Mod) (rD2 X.K T modD) := by
  intro pins s σ H x y v u Q I rx ry h
  obtain ⟨F, d, e, z, hz, rd, re, hG, q⟩ := h
  cases rd with
  | int i =>
    cases re with
    | int j =>
      have hG : (if 0 < j then some (D.int (i % j)) else none) = some z := hG
      split at hG
      · rename_i hc
        cases hG
        exact op_mod pins s σ H _ _ v u Q I rx ry ⟨i, j, rfl, rfl, hc, done0 hz q (.int _)⟩
      · cases hG
    | _ => cases hG
  | _ => cases hG
theorem u_neg : UnR X (unaryOp .USub) (rD1 X.K T negD) := by
  intro pins s σ H x v Q I rx h
  obtain ⟨F, d, z, hz, rd, hG, q⟩ := h
  cases rd with
  | int i => cases hG; exact un_neg pins s σ H _ v Q I rx ⟨i, rfl, done0 hz q (.int _)⟩
  | _ => cases hG
theorem o_lt : OpR X (compareOp .Lt) (rD2 X.K T ltD) := by
  intro pins s σ H x y v u Q I rx ry h
  obtain ⟨F, d, e, z, hz, rd, re, hG, q⟩ := h
  cases rd with
  | int i =>
    cases re with
    | int j => cases hG; exact op_lt pins s σ H _ _ v u Q I rx ry ⟨i, j, rfl, rfl, done0 hz q (.bl _)⟩
    | _ => cases hG
  | _ => cases hG
theorem o_le : OpR X (compareOp .LtE) (rD2 X.K T leD) := by
  intro pins s σ H x y v u Q I rx ry h
  obtain ⟨F, d, e, z, hz, rd, re, hG, q⟩ := h
  cases rd with
  | int i =>
    cases re with
    | int j => cases hG; exact op_le pins s σ H _ _ v u Q I rx ry ⟨i, j, rfl, rfl, done0 hz q (.bl _)⟩
    | _ => cases hG
  | _ => cases hG
theorem o_gt : OpR X (compareOp .Gt) (rD2 X.K T gtD) := by
  intro pins s σ H x y v u Q I rx ry h
  obtain ⟨F, d, e, z, hz, rd, re, hG, q⟩ := h
  cases rd with
  | int i =>
    cases re with
    | int j => cases hG; exact op_gt pins s σ H _ _ v u Q I rx ry ⟨i, j, rfl, rfl, done0 hz q (.bl _)⟩
    | _ => cases hG
  | _ => cases hG
theorem o_ge : OpR X (compareOp .GtE) (rD2 X.K T geD) := by
  intro pins s σ H x y v u Q I rx ry h
  obtain ⟨F, d, e, z, hz, rd, re, hG, q⟩ := h
  cases rd with
  | int i =>
    cases re with
    | int j => cases hG; exact op_ge pins s σ H _ _ v u Q I rx ry ⟨i, j, rfl, rfl, done0 hz q (.bl _)⟩
    | _ => cases hG
  | _ => cases hG
theorem o_is : OpR X (compareOp .Is) (rD2 X.K T isN) := by
  intro pins s σ H x y v u Q I rx ry h
  obtain ⟨F, d, e, z, hz, rd, re, hG, q⟩ := h
  cases re with
  | non => cases rd <;> cases hG <;> exact op_isN pins s σ H _ _ v u Q I rx ry ⟨rfl, done0 hz q (.bl _)⟩
  | _ => cases rd <;> cases hG
end
end DN
namespace DN
open PySem PySem.Spec PyProof.Rows L2
open LamX (Tabs ExtN)

/-! ### tests, and, or, not, chains -/
def andQ (f g : Rho → Res Bool) : Rho → Res Bool := fun ρ => (f ρ).bind fun b => if b = true then g ρ else .ok false
def orQ (f g : Rho → Res Bool) : Rho → Res Bool := fun ρ => (f ρ).bind fun b => if b = true then .ok true else g ρ
def notQ (f : Rho → Res Bool) : Rho → Res Bool := fun ρ => (f ρ).bind fun b => .ok (!b)
def andE (f g : Rho → Res D) : Rho → Res D := fun ρ => (f ρ).bind fun d => (ans d).bind fun b => if b = true then g ρ else .ok (.bl false)
def orE (f g : Rho → Res D) : Rho → Res D := fun ρ => (f ρ).bind fun d => (ans d).bind fun b => if b = true then .ok (.bl true) else g ρ
def notE (f : Rho → Res D) : Rho → Res D := fun ρ => (f ρ).bind fun d => (ans d).bind fun b => .ok (.bl (!b))
def chn (G G' : D → D → Option D) (f g h : Rho → Res D) : Rho → Res D := fun ρ => (f ρ).bind fun d => (g ρ).bind fun e => (ofO (G d e)).bind fun z => (ans z).bind fun k => if k = true then (h ρ).bind fun c => ofO (G' e c) else .ok (.bl false)
section
variable {X : Cx} {T : List (Addr × Str)} {W : WX}
theorem q_val {e : Expr} {f : Rho → Res D} (h : DE X T W e f) (he : ∀ whole, isTrue e X.env whole = (do let v ← whole; standAt e.pos; holding [v] (truthy v)) := by intro _; rfl) : DQ X T W e (tst f) :=
  (pt_val h he).to fun _ _ _ h => tst_to h
theorem w_and1 {a : Expr} {pos : Pos} {f : Rho → Res Bool} (h : DQ X T W a f) : DW X T W (.BoolOp .And [a] pos) f := pw_and1 h
theorem w_or1 {a : Expr} {pos : Pos} {f : Rho → Res Bool} (h : DQ X T W a f) : DW X T W (.BoolOp .Or [a] pos) f := pw_or1 h
theorem w_and {a b : Expr} {rest : List Expr} {pos : Pos} {f g : Rho → Res Bool} (h : DQ X T W a f) (h2 : DW X T W (.BoolOp .And (b :: rest) pos) g) : DW X T W (.BoolOp .And (a :: b :: rest) pos) (andQ f g) :=
  (pw_and h h2).to fun σ H Q ⟨ρ, F, a, h⟩ => by
    refine ⟨ρ, F, a, (aft.bind (R := RBool) h).imp fun d _ v F1 H1 _ _ q => ?_⟩
    obtain ⟨b, F2, _, n, rv, q⟩ := q
    obtain rfl : v = b := rv
    cases v with
    | true => exact ⟨ρ, F2, a.nx n, q⟩
    | false => exact q.ok (Nx.refl n.z) rfl
theorem w_or {a b : Expr} {rest : List Expr} {pos : Pos} {f g : Rho → Res Bool} (h : DQ X T W a f) (h2 : DW X T W (.BoolOp .Or (b :: rest) pos) g) : DW X T W (.BoolOp .Or (a :: b :: rest) pos) (orQ f g) :=
  (pw_or h h2).to fun σ H Q ⟨ρ, F, a, h⟩ => by
    refine ⟨ρ, F, a, (aft.bind (R := RBool) h).imp fun d _ v F1 H1 _ _ q => ?_⟩
    obtain ⟨b, F2, _, n, rv, q⟩ := q
    obtain rfl : v = b := rv
    cases v with
    | true => exact q.ok (Nx.refl n.z) rfl
    | false => exact ⟨ρ, F2, a.nx n, q⟩
theorem q_w {e : Expr} {f : Rho → Res Bool} (h : DW X T W e f) : DQ X T W e f := PW.pt h
theorem q_not {a : Expr} {pos : Pos} {f : Rho → Res Bool} (h : DQ X T W a f) : DQ X T W (.UnaryOp .Not a pos) (notQ f) :=
  (pt_not h).to fun σ H Q ⟨ρ, F, a, h⟩ => by
    refine ⟨ρ, F, a, (aft.bind (R := RBool) h).imp fun d _ v F1 H1 _ _ q => ?_⟩
    obtain ⟨b, F2, _, n, rv, q⟩ := q
    obtain rfl : v = b := rv
    exact q.ok (Nx.refl n.z) rfl
theorem e_one {op} {a : Expr} {pos : Pos} {f : Rho → Res D} (h : DE X T W a f) : DE X T W (.BoolOp op [a] pos) f := pe_one h
theorem bool_of {K : PySem.W.Frag} {σ : L2.St} {F H : Hp} {α β : Type} {R : Hp → α → β → Prop} {Q : α → Hp → Prop} {d : D} {v : V} {k : Bool → Res β} (rv : Rp K F v d) (q : aft R K T W σ F H Q ((ans d).bind k)) : ∃ c, v = .bl c ∧ d = .bl c ∧ aft R K T W σ F H Q (k c) := by
  cases rv with
  | bl c => exact ⟨c, rfl, rfl, q⟩
  | _ => exact q.elim
theorem e_and {a b : Expr} {rest : List Expr} {pos : Pos} {f g : Rho → Res D} (h : DE X T W a f) (h2 : DE X T W (.BoolOp .And (b :: rest) pos) g) : DE X T W (.BoolOp .And (a :: b :: rest) pos) (andE f g) :=
  (pe_and h h2).to fun σ H Q ⟨ρ, F, a, h⟩ => by
    refine ⟨ρ, F, a, (aft.bind (R := Rp X.K) h).imp fun d _ v F1 H1 _ _ q => ?_⟩
    obtain ⟨b, F2, _, n, rv, q⟩ := q
    obtain ⟨c, rfl, rfl, q⟩ := bool_of rv q
    refine ⟨c, rfl, ?_⟩
    cases c with
    | true => exact ⟨ρ, F2, a.nx n, q⟩
    | false => exact q.ok (Nx.refl n.z) (.bl false)
theorem e_or {a b : Expr} {rest : List Expr} {pos : Pos} {f g : Rho → Res D} (h : DE X T W a f) (h2 : DE X T W (.BoolOp .Or (b :: rest) pos) g) : DE X T W (.BoolOp .Or (a :: b :: rest) pos) (orE f g) :=
  (pe_or h h2).to fun σ H Q ⟨ρ, F, a, h⟩ => by
    refine ⟨ρ, F, a, (aft.bind (R := Rp X.K) h).imp fun d _ v F1 H1 _ _ q => ?_⟩
    obtain ⟨b, F2, _, n, rv, q⟩ := q
    obtain ⟨c, rfl, rfl, q⟩ := bool_of rv q
    refine ⟨c, rfl, ?_⟩
    cases c with
    | true => exact q.ok (Nx.refl n.z) (.bl true)
    | false => exact ⟨ρ, F2, a.nx n, q⟩
theorem chn_to {G G' : D → D → Option D} {K : PySem.W.Frag} {f g h : Rho → Res D} {σ : L2.St} {H : Hp} {Q : VK} (hh : tE K T W (chn G G' f g h) σ H Q) : tChain (rD2 K T G) (rD2 K T G') (tE K T W f) (tE K T W g) (tE K T W h) σ H Q := by
  obtain ⟨ρ, F, a, h⟩ := hh
  refine ⟨ρ, F, a, (aft.bind (R := Rp K) h).imp fun d _ v F1 H1 _ _ q => ?_⟩
  obtain ⟨b, F2, _, n, rv, q⟩ := q
  refine ⟨ρ, F2, a.nx n, (aft.bind (R := Rp K) q).imp fun ds _ vs F3 H3 _ _ q => ?_⟩
  obtain ⟨e, F4, _, n2, rs, q⟩ := q
  have q1 := aft.bind (R := Rp K) q
  obtain ⟨z, hz, q2⟩ := ofO_ok q1
  refine ⟨F4, b, e, z, n2.z, rv.mono n2.f, rs, hz, fun v' F' H' n3 rz => ?_⟩
  obtain ⟨z', F5, ez, n4, rz', q3⟩ := q2 v' F' H' n3 rz
  rw [hz] at ez
  obtain rfl : z = z' := by injection ez
  obtain ⟨k, rfl, rfl, q4⟩ := bool_of rz' q3
  refine ⟨k, rfl, ?_⟩
  cases k with
  | false => exact q4.ok (Nx.refl n4.z) (.bl false)
  | true =>
    refine ⟨ρ, F5, (a.nx (n.trans (n2.trans n4))), (aft.bind (R := Rp K) q4).imp fun c _ w F6 H6 _ _ q => ?_⟩
    obtain ⟨c', F7, _, n5, rc, q⟩ := q
    obtain ⟨z2, hz2, q⟩ := ofO_ok q
    exact ⟨F7, e, c', z2, n5.z, rs.mono (n4.trans n5).f, rc, hz2, q⟩
theorem q_chn {op op' : CmpOp} {G G' : D → D → Option D} {a b c : Expr} {f g h : Rho → Res D} {pos : Pos} (ho : OpR X (compareOp op) (rD2 X.K T G)) (ho' : OpR X (compareOp op') (rD2 X.K T G')) (ha : DE X T W a f) (hb : DE X T W b g) (hc : DE X T W c h)
    (hm : lastMarks [op, op'] [b, c] = false := by with_unfolding_all rfl) : DQ X T W (.Compare a [op, op'] [b, c] pos) (tst (chn G G' f g h)) :=
  (pt_chain ho ho' ha hb hc hm).to fun σ H Q h => by
    have h2 := tst_to h
    exact chn_to h2
end

/-! ### displays, subscripts, slices -/
def mkT (f : Rho → Res (List D)) : Rho → Res D := fun ρ => (f ρ).bind fun ds => if ds.length ≤ sizeLine then .ok (.tup ds) else .bad
def mkL (f : Rho → Res (List D)) : Rho → Res D := fun ρ => (f ρ).bind fun ds => if ds.length ≤ sizeLine then .ok (.lst ds) else .bad
def ixD : D → D → Option D
  | .tup xs, .int i => atI xs i
  | .lst xs, .int i => atI xs i
  | .arr ns, .int i => (atI ns i).map .int
  | .str x, .int i => if x.length ≤ sizeLine then (atI x.cps.toList i).map fun c => .str ⟨#[c]⟩ else none
  | _, _ => none
def cutD (xs : List D) (lo hi : Option Int) : List D := (xs.drop (HT.sIx xs.length 0 lo)).take (HT.sIx xs.length xs.length hi - HT.sIx xs.length 0 lo)
def slD : D → Option Int → Option Int → Option D
  | .tup xs, lo, hi => some (.tup (cutD xs lo hi))
  | .lst xs, lo, hi => some (.lst (cutD xs lo hi))
  | .str x, lo, hi => if x.length ≤ sizeLine then some (.str (cutS x lo hi)) else none
  | _, _, _ => none
def pno : Rho → Res (Option Int) := fun _ => .ok none
def intO : D → Res (Option Int)
  | .int i => .ok (some i)
  | _ => .bad
def psm (f : Rho → Res D) : Rho → Res (Option Int) := fun ρ => (f ρ).bind intO
def slc (f : Rho → Res D) (g h : Rho → Res (Option Int)) : Rho → Res D := fun ρ => (f ρ).bind fun d => (g ρ).bind fun lo => (h ρ).bind fun hi => ofO (slD d lo hi)
section
variable {X : Cx} {T : List (Addr × Str)} {W : WX}
theorem e_tup {es : List Expr} {x1} {pos : Pos} {f : Rho → Res (List D)} (h : DA X T W es f) : DE X T W (.Tuple es x1 pos) (mkT f) :=
  (pe_tup h).to fun σ H Q ⟨ρ, F, a, h⟩ => by
    refine ⟨ρ, F, a, (aft.bind (R := RpAll X.K) h).imp fun d _ v F1 H1 _ _ q => ?_⟩
    obtain ⟨ds, F2, _, n, rv, q⟩ := q
    have q : aft (Rp X.K) X.K T W σ F2 H1 Q (if ds.length ≤ sizeLine then .ok (.tup ds) else .bad) := q
    split at q
    · rename_i hl
      exact ⟨by rw [rv.length]; exact hl, fun p hp => q _ _ _ (Nx.push n.z hp ntT) (rp_tup n.z hp rv)⟩
    · exact q.elim
theorem e_lst {es : List Expr} {pos : Pos} {f : Rho → Res (List D)} (h : DA X T W es f) : DE X T W (.List es pos) (mkL f) :=
  (pe_lst h).to fun σ H Q ⟨ρ, F, a, h⟩ => by
    refine ⟨ρ, F, a, (aft.bind (R := RpAll X.K) h).imp fun d _ v F1 H1 _ _ q => ?_⟩
    obtain ⟨ds, F2, _, n, rv, q⟩ := q
    have q : aft (Rp X.K) X.K T W σ F2 H1 Q (if ds.length ≤ sizeLine then .ok (.lst ds) else .bad) := q
    split at q
    · rename_i hl
      exact ⟨by rw [rv.length]; exact hl, fun p hp => q _ _ _ (Nx.push n.z hp ntL) (rp_lst n.z hp rv)⟩
    · exact q.elim
theorem atI_get {K : PySem.W.Frag} {F : Hp} {xs : List V} {ds : List D} {i : Int} {d : D} (r : RpAll K F xs ds) (h : atI ds i = some d) : ∃ v, atI xs i = some v ∧ Rp K F v d := by
  unfold atI at h ⊢
  rw [r.length]
  cases e : ixN ds.length i with
  | none => rw [e] at h; cases h
  | some j =>
    rw [e] at h
    exact r.get h
theorem atI_int {ns : List Int} {i : Int} {z : D} (h : (atI ns i).map D.int = some z) : ∃ n, atI (ns.map V.int) i = some (.int n) ∧ z = .int n := by
  unfold atI at h ⊢
  rw [List.length_map]
  cases e : ixN ns.length i with
  | none => rw [e] at h; cases h
  | some j =>
    rw [e] at h
    have h : (ns[j]?).map D.int = some z := h
    show ∃ n, (ns.map V.int)[j]? = some (.int n) ∧ z = .int n
    rw [List.getElem?_map]
    cases q : ns[j]? with
    | none => rw [q] at h; cases h
    | some n =>
      rw [q] at h
      cases h
      exact ⟨n, rfl, rfl⟩
theorem x_ix : IxR X (rD2 X.K T ixD) := by
  intro value slice pins s σ H x y v u Q I rx ry h hs
  obtain ⟨F, d, e, z, hz, rd, re, hG, q⟩ := h
  cases rd with
  | tup h1 r1 =>
    cases re with
    | int i =>
      obtain ⟨w, hw, rw'⟩ := atI_get r1 hG
      exact ix_tup value slice pins s σ H _ _ v u Q I rx ry ⟨_, _, i, w, rfl, rfl, hz.sub.st h1, hw, done0 hz q rw'⟩ hs
    | _ => cases hG
  | lst h1 r1 =>
    cases re with
    | int i =>
      obtain ⟨w, hw, rw'⟩ := atI_get r1 hG
      exact ix_list value slice pins s σ H _ _ v u Q I rx ry ⟨_, _, i, w, rfl, rfl, SqL.of (hz.sub _ _ h1), hw, done0 hz q rw'⟩ hs
    | _ => cases hG
  | arr h1 =>
    cases re with
    | int i =>
      obtain ⟨n, hn, rfl⟩ := atI_int hG
      exact ix_list value slice pins s σ H _ _ v u Q I rx ry ⟨_, _, i, .int n, rfl, rfl, hz.sub.sl h1, hn, done0 hz q (.int n)⟩ hs
    | _ => cases hG
  | str x =>
    cases re with
    | int i =>
      have hG : (if x.length ≤ sizeLine then (atI x.cps.toList i).map fun c => D.str ⟨#[c]⟩ else none) = some z := hG
      split at hG
      · rename_i hl
        cases e : atI x.cps.toList i with
        | none => rw [e] at hG; cases hG
        | some c =>
          rw [e] at hG
          cases hG
          exact ix_str value slice pins s σ H _ _ v u Q I rx ry ⟨x, i, c, rfl, rfl, hl, e, done0 hz q (.str _)⟩ hs
      · cases hG
    | _ => cases hG
  | _ => cases hG
theorem e_ix {a b : Expr} {f g : Rho → Res D} {pos : Pos} (ha : DE X T W a f) (hb : DE X T W b g) (hs : PlainIx b := by exact fun _ _ => rfl) : DE X T W (.Subscript a b pos) (bop ixD f g) :=
  (pe_ix x_ix ha hb hs).to fun _ _ _ h => bin_to h
theorem _root_.L2.PO.to {X : Cx} {e : Option Expr} {t u : TO} (h : PO X e t) (k : ∀ σ H Q, u σ H Q → t σ H Q) : PO X e u := ⟨fun pins s σ H Q I q => h.run pins s σ H Q I (k σ H Q q)⟩
theorem RpAll.cut {K : PySem.W.Frag} {F : Hp} {xs : List V} {ds : List D} (r : RpAll K F xs ds) (lo hi : Option Int) : RpAll K F (cutV xs lo hi) (cutD ds lo hi) := by
  unfold cutV cutD
  rw [r.length]
  exact (r.drop _).take _
end

/-! ### calls of built-ins -/
section
variable {X : Cx} {T : List (Addr × Str)} {W : WX}
theorem cal_to {K : PySem.W.Frag} {G : List D → Option D} {f : Rho → Res (List D)} {σ : L2.St} {H : Hp} {Q : VK} (h : tE K T W (cal G f) σ H Q) : tCB (rDn K T G) (tA K T W f) σ H Q := by
  obtain ⟨ρ, F, a, h⟩ := h
  refine ⟨ρ, F, a, (aft.bind (R := RpAll K) h).imp fun d _ v F1 H1 _ _ q => ?_⟩
  obtain ⟨b, F2, _, n, rv, q⟩ := q
  obtain ⟨z, hz, q⟩ := ofO_ok q
  exact ⟨F2, b, z, n.z, rv, hz, q⟩
theorem e_callB {id : String} {x : Str} {G : List D → Option D} {e : Expr} {es : List Expr} {p pos : Pos} {f : Rho → Res (List D)} (hc : CallR X (.builtin id) (rDn X.K T G)) (hg : Gl X x) (hm : X.mg x = none) (hv : bootBuiltins x = some (.builtin id)) (ha : DA X T W (e :: es) f)
    (hn : x ≠ "__name__" := by decide) (hdb : (x == ("__debug__" : Str)) = false := by decide) (hpl : starEach (e :: es) X.env = (false, eval e X.env) :: starEach es X.env := by rfl) (hpl2 : (backTo pos (starEach es X.env)).any (·.1) = false := by rfl) : DE X T W (.Call (.Name x p) (e :: es) [] pos) (cal G f) :=
  (pe_callB hc hg hm hv ha hn hdb hpl hpl2).to fun _ _ _ h => cal_to h
theorem e_callTy {T' : String} {x : Str} {G : List D → Option D} {e : Expr} {es : List Expr} {p pos : Pos} {f : Rho → Res (List D)} (hc : CallR X (.type T') (rDn X.K T G)) (hg : Gl X x) (hm : X.mg x = none) (hv : bootBuiltins x = some (.type T')) (ha : DA X T W (e :: es) f)
    (hn : x ≠ "__name__" := by decide) (hdb : (x == ("__debug__" : Str)) = false := by decide) (hpl : starEach (e :: es) X.env = (false, eval e X.env) :: starEach es X.env := by rfl) (hpl2 : (backTo pos (starEach es X.env)).any (·.1) = false := by rfl) : DE X T W (.Call (.Name x p) (e :: es) [] pos) (cal G f) :=
  (pe_callTy hc hg hm hv ha hn hdb hpl hpl2).to fun _ _ _ h => cal_to h
end
def lenD : List D → Option D
  | [.str x] => if x.length ≤ sizeLine then some (.int x.length) else none
  | [.tup xs] => some (.int xs.length)
  | [.lst xs] => some (.int xs.length)
  | [.arr ns] => some (.int ns.length)
  | _ => none
def absD : List D → Option D
  | [.int i] => some (.int (if i < 0 then -i else i))
  | _ => none
def maxD : List D → Option D
  | [.int i, .int j] => some (.int (if j > i then j else i))
  | _ => none
def minD : List D → Option D
  | [.int i, .int j] => some (.int (if j < i then j else i))
  | _ => none
def intD : List D → Option D
  | [.int i] => some (.int i)
  | [.bl k] => some (.int (if k then 1 else 0))
  | [.str x] => if x.length ≤ 640 then (PySem.intText? x).map .int else none
  | _ => none
def strD : List D → Option D
  | [.int i] => if i.natAbs.log2 < 1920 then some (.str (toString i)) else none
  | _ => none
def tyD : D → Option String
  | .non => some "NoneType"
  | .bl _ => some "bool"
  | .int _ => some "int"
  | .str _ => some "str"
  | .lst _ => some "list"
  | .tup _ => some "tuple"
  | _ => none
def isiD : List D → Option D
  | [d, .ty n] => (tyD d).bind fun t => (kitB t n).map .bl
  | _ => none
section
variable {X : Cx} {T : List (Addr × Str)} {W : WX}
theorem all1 {K : PySem.W.Frag} {F : Hp} {xs : List V} {d : D} (r : RpAll K F xs [d]) : ∃ v, xs = [v] ∧ Rp K F v d := by
  cases r with
  | cons h t => cases t; exact ⟨_, rfl, h⟩
theorem all2 {K : PySem.W.Frag} {F : Hp} {xs : List V} {d e : D} (r : RpAll K F xs [d, e]) : ∃ v w, xs = [v, w] ∧ Rp K F v d ∧ Rp K F w e := by
  cases r with
  | cons h t =>
    obtain ⟨w, rfl, h2⟩ := all1 t
    exact ⟨_, w, rfl, h, h2⟩
theorem c_len : CallR X (.builtin "len") (rDn X.K T lenD) := by
  intro pins s σ H xs us Q I r h
  obtain ⟨F, ds, z, hz, rs, hG, q⟩ := h
  unfold lenD at hG
  split at hG
  · rename_i x
    obtain ⟨v, rfl, rv⟩ := all1 rs
    cases rv
    split at hG
    · rename_i hl
      cases hG
      exact call_len_str pins s σ H _ us Q I r ⟨x, rfl, hl, done0 hz q (.int _)⟩
    · cases hG
  · obtain ⟨v, rfl, rv⟩ := all1 rs
    cases hG
    cases rv with
    | tup h1 r1 => exact call_len_seq pins s σ H _ us Q I r ⟨_, _, rfl, .inr (hz.sub.st h1), by rw [r1.length]; exact done0 hz q (.int _)⟩
  · obtain ⟨v, rfl, rv⟩ := all1 rs
    cases hG
    cases rv with
    | lst h1 r1 => exact call_len_seq pins s σ H _ us Q I r ⟨_, _, rfl, .inl (SqL.of (hz.sub _ _ h1)), by rw [r1.length]; exact done0 hz q (.int _)⟩
  · obtain ⟨v, rfl, rv⟩ := all1 rs
    cases hG
    cases rv with
    | arr h1 => exact call_len_seq pins s σ H _ us Q I r ⟨_, _, rfl, .inl (hz.sub.sl h1), by rw [List.length_map]; exact done0 hz q (.int _)⟩
  · cases hG
theorem c_abs : CallR X (.builtin "abs") (rDn X.K T absD) := by
  intro pins s σ H xs us Q I r h
  obtain ⟨F, ds, z, hz, rs, hG, q⟩ := h
  unfold absD at hG
  split at hG
  · obtain ⟨v, rfl, rv⟩ := all1 rs
    cases rv
    cases hG
    exact call_abs pins s σ H _ us Q I r ⟨_, rfl, done0 hz q (.int _)⟩
  · cases hG
theorem c_max (hc : X.calm = true) : CallR X (.builtin "max") (rDn X.K T maxD) := by
  intro pins s σ H xs us Q I r h
  obtain ⟨F, ds, z, hz, rs, hG, q⟩ := h
  unfold maxD at hG
  split at hG
  · obtain ⟨v, w, rfl, rv, rw'⟩ := all2 rs
    cases rv
    cases rw'
    cases hG
    exact call_max2 hc pins s σ H _ us Q I r ⟨_, _, rfl, done0 hz q (.int _)⟩
  · cases hG
theorem c_min (hc : X.calm = true) : CallR X (.builtin "min") (rDn X.K T minD) := by
  intro pins s σ H xs us Q I r h
  obtain ⟨F, ds, z, hz, rs, hG, q⟩ := h
  unfold minD at hG
  split at hG
  · obtain ⟨v, w, rfl, rv, rw'⟩ := all2 rs
    cases rv
    cases rw'
    cases hG
    exact call_min2 hc pins s σ H _ us Q I r ⟨_, _, rfl, done0 hz q (.int _)⟩
  · cases hG
theorem c_int : CallR X (.type "int") (rDn X.K T intD) := by
  intro pins s σ H xs us Q I r h
  obtain ⟨F, ds, z, hz, rs, hG, q⟩ := h
  unfold intD at hG
  split at hG
  · obtain ⟨v, rfl, rv⟩ := all1 rs
    cases rv
    cases hG
    exact call_int1 pins s σ H _ us Q I r (.inl ⟨_, rfl, done0 hz q (.int _)⟩)
  · obtain ⟨v, rfl, rv⟩ := all1 rs
    cases rv
    cases hG
    exact call_int1 pins s σ H _ us Q I r (.inr ⟨_, rfl, done0 hz q (.int _)⟩)
  · rename_i x
    obtain ⟨v, rfl, rv⟩ := all1 rs
    cases rv
    split at hG
    · rename_i hl
      cases e : PySem.intText? x with
      | none => rw [e] at hG; cases hG
      | some n =>
        rw [e] at hG
        cases hG
        exact call_int_str pins s σ H _ us Q I r ⟨x, n, rfl, e, hl, done0 hz q (.int _)⟩
    · cases hG
  · cases hG
theorem c_str : CallR X (.type "str") (rDn X.K T strD) := by
  intro pins s σ H xs us Q I r h
  obtain ⟨F, ds, z, hz, rs, hG, q⟩ := h
  unfold strD at hG
  split at hG
  · obtain ⟨v, rfl, rv⟩ := all1 rs
    cases rv
    split at hG
    · rename_i hl
      cases hG
      exact call_str_int pins s σ H _ us Q I r ⟨_, rfl, hl, done0 hz q (.str _)⟩
    · cases hG
  · cases hG
theorem ty_of {K : PySem.W.Frag} {F H : Hp} {v : V} {d : D} {t : String} (hz : Fz F H) (r : Rp K F v d) (h : tyD d = some t) : TyX K H v (.type t) := by
  cases r with
  | non => cases h; exact .base .non
  | bl b => cases h; exact .base (.bl b)
  | int i => cases h; exact .base (.int i)
  | str x => cases h; exact .base (.str x)
  | lst h1 _ => cases h; exact .base (.lst (hz.sub _ _ h1))
  | tup h1 _ =>
    cases h
    rcases h1 with (h1 | ⟨o, h1⟩) | ⟨o, its, n, hk, hc, _⟩
    · exact .base (.tup (hz.sub _ _ h1))
    · exact .fTuple (hz.sub _ _ h1)
    · exact .kTuple hk hc
  | _ => cases h
theorem c_isi : CallR X (.builtin "isinstance") (rDn X.K T isiD) := by
  intro pins s σ H xs us Q I r h
  obtain ⟨F, ds, z, hz, rs, hG, q⟩ := h
  unfold isiD at hG
  split at hG
  · rename_i d n
    obtain ⟨v, w, rfl, rv, rw'⟩ := all2 rs
    cases rw'
    cases e : tyD d with
    | none => rw [e] at hG; cases hG
    | some t =>
      rw [e] at hG
      have hG : (kitB t n).map D.bl = some z := hG
      cases e2 : kitB t n with
      | none => rw [e2] at hG; cases hG
      | some b =>
        rw [e2] at hG
        cases hG
        exact call_isi pins s σ H _ us Q I r ⟨v, _, _, _, b, rfl, .ty n, ty_of hz rv e, kit_ty e2, done0 hz q (.bl b)⟩
  · cases hG
end
end DN
namespace DN
open PySem PySem.Spec PyProof.Rows L2
open LamX (Tabs ExtN)

/-! ### == and != of data -/
def flatD : D → Bool
  | .non => true
  | .bl _ => true
  | .int _ => true
  | .str _ => true
  | _ => false
mutual
def eqd : D → D → Bool
  | .non, .non => true
  | .bl a, .bl b => a == b
  | .bl a, .int j => (if a then 1 else 0) == j
  | .int i, .bl b => i == (if b then 1 else 0)
  | .int i, .int j => i == j
  | .str x, .str y => x == y
  | .lst xs, .lst ys => eqds xs ys
  | .tup xs, .tup ys => eqds xs ys
  | _, _ => false
def eqds : List D → List D → Bool
  | [], [] => true
  | x :: xs, y :: ys => eqd x y && eqds xs ys
  | _, _ => false
end
mutual
/-- plain data that is no deeper than n -/
def plain : Nat → D → Bool
  | _, .non => true
  | _, .bl _ => true
  | _, .int _ => true
  | _, .str x => PyData.strOk x
  | n + 1, .lst xs => plains n xs
  | n + 1, .tup xs => plains n xs
  | _, _ => false
def plains : Nat → List D → Bool
  | _, [] => true
  | n, x :: xs => plain n x && plains n xs
end
mutual
def pyO : D → PyData
  | .non => .none
  | .bl b => .bool b
  | .int i => .int i
  | .str x => .str x
  | .lst xs => .list (pyA xs)
  | .tup xs => .tuple (pyA xs)
  | _ => .none
def pyA : List D → List PyData
  | [] => []
  | x :: xs => pyO x :: pyA xs
end
mutual
theorem plain_py {K : PySem.W.Frag} {H : Hp} : ∀ (n : Nat) (d : D) (v : V), plain n d = true → Rp K H v d → Dp K H v (pyO d) ∧ (pyO d).canLay0 = true ∧ (pyO d).depth ≤ n
  | n, .non, _, _, .non => by
    unfold pyO
    exact ⟨.non, by simp [PyData.canLay0], by simp [PyData.depth]⟩
  | n, .bl b, _, _, .bl _ => by
    unfold pyO
    exact ⟨.bl b, by simp [PyData.canLay0], by simp [PyData.depth]⟩
  | n, .int b, _, _, .int _ => by
    unfold pyO
    exact ⟨.int b, by simp [PyData.canLay0], by simp [PyData.depth]⟩
  | n, .str b, _, h, .str _ => by
    unfold plain at h
    unfold pyO
    exact ⟨.str b, by simpa [PyData.canLay0] using h, by simp [PyData.depth]⟩
  | n + 1, .lst xs, _, h, .lst h1 r => by
    unfold plain at h
    obtain ⟨a, b, c⟩ := plains_py n xs _ h r
    unfold pyO
    exact ⟨.lst (SqL.of h1) a, by simpa [PyData.canLay0] using b, by simp only [PyData.depth]; omega⟩
  | n + 1, .tup xs, _, h, .tup h1 r => by
    unfold plain at h
    obtain ⟨a, b, c⟩ := plains_py n xs _ h r
    unfold pyO
    exact ⟨.tup h1 a, by simpa [PyData.canLay0] using b, by simp only [PyData.depth]; omega⟩
  | 0, .lst xs, _, h, _ => by simp [plain] at h
  | 0, .tup xs, _, h, _ => by simp [plain] at h
  | _, .fn _, _, h, _ => by simp [plain] at h
  | _, .ty _, _, h, _ => by simp [plain] at h
  | _, .dK _, _, h, _ => by simp [plain] at h
  | _, .dT _, _, h, _ => by simp [plain] at h
  | _, .arr _, _, h, _ => by simp [plain] at h
  | _, .pro _, _, h, _ => by simp [plain] at h
  | _, .dic _ _ _ _, _, h, _ => by simp [plain] at h
  | _, .adr _, _, h, _ => by simp [plain] at h
  | _, .ins _ _ _, _, h, _ => by simp [plain] at h
  | _, .tab _ _ _, _, h, _ => by simp [plain] at h
theorem plains_py {K : PySem.W.Frag} {H : Hp} : ∀ (n : Nat) (ds : List D) (vs : List V), plains n ds = true → RpAll K H vs ds → DpAll K H vs (pyA ds) ∧ PyData.canLayAll0 (pyA ds) = true ∧ PyData.depthAll (pyA ds) ≤ n
  | n, [], _, _, .nil => by
    unfold pyA
    exact ⟨.nil, by simp [PyData.canLayAll0], by simp [PyData.depthAll]⟩
  | n, d :: ds, _, h, .cons r t => by
    unfold plains at h
    rw [Bool.and_eq_true] at h
    obtain ⟨a, b, c⟩ := plain_py n d _ h.1 r
    obtain ⟨a2, b2, c2⟩ := plains_py n ds _ h.2 t
    unfold pyA
    exact ⟨.cons a a2, by simp [PyData.canLayAll0, b, b2], by simp only [PyData.depthAll]; omega⟩
end
mutual
theorem eqd_py : ∀ (n m : Nat) (d e : D), plain n d = true → plain m e = true → PyData.eqv (pyO d) (pyO e) = eqd d e
  | n, m, d, e, hd, he => by
    cases d <;> cases e <;> first
      | (simp only [pyO, PyData.eqv, eqd]; done)
      | (cases n <;> simp [plain] at hd; done)
      | (cases m <;> simp [plain] at he; done)
      | (cases n with
         | zero => simp [plain] at hd
         | succ n =>
           cases m with
           | zero => simp [plain] at he
           | succ m =>
             unfold plain at hd he
             simp only [pyO, PyData.eqv, eqd]
             exact eqds_py n m _ _ hd he)
theorem eqds_py : ∀ (n m : Nat) (d e : List D), plains n d = true → plains m e = true → PyData.eqvAll (pyA d) (pyA e) = eqds d e
  | n, m, [], [], _, _ => by simp [pyA, PyData.eqvAll, eqds]
  | n, m, [], _ :: _, _, _ => by simp [pyA, PyData.eqvAll, eqds]
  | n, m, _ :: _, [], _, _ => by simp [pyA, PyData.eqvAll, eqds]
  | n, m, x :: xs, y :: ys, hd, he => by
    unfold plains at hd he
    rw [Bool.and_eq_true] at hd he
    simp only [pyA, PyData.eqvAll, eqds]
    rw [eqd_py n m x y hd.1 he.1, eqds_py n m xs ys hd.2 he.2]
end
def eqOk (d e : D) : Bool := (flatD d && flatD e) || (plain 64 d && plain 64 e)
def eqD (d e : D) : Option D := if eqOk d e = true then some (.bl (eqd d e)) else none
def neD (d e : D) : Option D := if eqOk d e = true then some (.bl (!eqd d e)) else none
section
variable {X : Cx} {T : List (Addr × Str)} {W : WX}
/-- either two scalars that == tells apart, or plain data -/
theorem eq_cases {K : PySem.W.Frag} {F H : Hp} {x y : V} {d e : D} (hz : Fz F H) (rd : Rp K F x d) (re : Rp K F y e) (h : eqOk d e = true) :
    (scal x y = true ∧ decide (x = y) = eqd d e) ∨ (∃ a b, Dp K H x a ∧ Dp K H y b ∧ SeqAt.shaped a = true ∧ SeqAt.shaped b = true ∧ PyData.eqv a b = eqd d e) := by
  have deep : plain 64 d = true → plain 64 e = true → ∃ a b, Dp K H x a ∧ Dp K H y b ∧ SeqAt.shaped a = true ∧ SeqAt.shaped b = true ∧ PyData.eqv a b = eqd d e := fun hd he => by
    obtain ⟨a1, a2, a3⟩ := plain_py 64 d x hd (rd.mono hz.sub)
    obtain ⟨b1, b2, b3⟩ := plain_py 64 e y he (re.mono hz.sub)
    refine ⟨_, _, a1, b1, ?_, ?_, eqd_py 64 64 d e hd he⟩
    · unfold SeqAt.shaped
      rw [a2, decide_eq_true a3] <;> rfl
    · unfold SeqAt.shaped
      rw [b2, decide_eq_true b3] <;> rfl
  unfold eqOk at h
  rw [Bool.or_eq_true, Bool.and_eq_true, Bool.and_eq_true] at h
  rcases h with ⟨h1, h2⟩ | ⟨h1, h2⟩
  · cases rd <;> cases re <;> first
      | (cases h1; done)
      | (cases h2; done)
      | (refine .inr (deep ?_ ?_) <;> simp [plain] <;> done)
      | (refine .inl ⟨rfl, ?_⟩; simp only [eqd]; first | exact dec_str | (simp; done))
  · exact .inr (deep h1 h2)
theorem o_eq (hu : X.A.units + 64 < cLine) : OpR X (compareOp .Eq) (rD2 X.K T eqD) := by
  intro pins s σ H x y v u Q I rx ry h
  obtain ⟨F, d, e, z, hz, rd, re, hG, q⟩ := h
  unfold eqD at hG
  split at hG
  · rename_i hk
    cases hG
    rcases eq_cases hz rd re hk with ⟨h1, h2⟩ | ⟨a, b, h1, h2, h3, h4, h5⟩
    · exact op_eq pins s σ H x y v u Q I rx ry ⟨h1, by rw [h2]; exact done0 hz q (.bl _)⟩
    · exact op_eqD hu pins s σ H x y v u Q I rx ry ⟨a, b, h1, h2, h3, h4, by rw [h5]; exact done0 hz q (.bl _)⟩
  · cases hG
theorem o_ne (hu : X.A.units + 64 < cLine) : OpR X (compareOp .NotEq) (rD2 X.K T neD) := by
  intro pins s σ H x y v u Q I rx ry h
  obtain ⟨F, d, e, z, hz, rd, re, hG, q⟩ := h
  unfold neD at hG
  split at hG
  · rename_i hk
    cases hG
    rcases eq_cases hz rd re hk with ⟨h1, h2⟩ | ⟨a, b, h1, h2, h3, h4, h5⟩
    · exact op_ne pins s σ H x y v u Q I rx ry ⟨h1, by rw [h2]; exact done0 hz q (.bl _)⟩
    · exact op_neD hu pins s σ H x y v u Q I rx ry ⟨a, b, h1, h2, h3, h4, by rw [h5]; exact done0 hz q (.bl _)⟩
  · cases hG
end

/-! ### in, not in -/
def hasS (x y : Str) : Bool := if x.cps.size = 1 then decide (x.cps.getD 0 0 ∈ y.cps.toList) else !(Builtin.Str.occurrences y x 0 y.length 1).isEmpty
def inL (d : D) (xs : List D) : Option Bool := if (flatD d && xs.all flatD) = true then some (xs.any fun y => eqd y d) else if (plain 60 d && plains 60 xs) = true then some (xs.any fun y => eqd y d) else none
def inB : D → D → Option Bool
  | .str x, .str y => some (hasS x y)
  | d, .tup xs => inL d xs
  | d, .lst xs => inL d xs
  | _, _ => none
def inD (d e : D) : Option D := (inB d e).map .bl
section
variable {X : Cx} {T : List (Addr × Str)} {W : WX}
theorem flat_rp {K : PySem.W.Frag} {F : Hp} {v : V} {d : D} (r : Rp K F v d) (h : flatD d = true) : flatV v = true := by
  cases r <;> first | rfl | cases h
theorem flat_all {K : PySem.W.Frag} {F : Hp} : ∀ {vs : List V} {ds : List D}, RpAll K F vs ds → ds.all flatD = true → vs.all flatV = true
  | _, _, .nil, _ => rfl
  | _, _, .cons r t, h => by
    rw [List.all_cons, Bool.and_eq_true] at h
    rw [List.all_cons, flat_rp r h.1, flat_all t h.2] <;> rfl
theorem eqV_eqd {K : PySem.W.Frag} {F : Hp} {v w : V} {d e : D} (r : Rp K F v d) (q : Rp K F w e) (h : flatD d = true) (h2 : flatD e = true) : eqV v w = eqd d e := by
  cases r <;> first
    | (cases h; done)
    | (cases q <;> first | (cases h2; done) | (simp [eqV, eqd]; done))
theorem inV_eq {K : PySem.W.Frag} {F : Hp} {w : V} {e : D} (q : Rp K F w e) (h2 : flatD e = true) : ∀ {vs : List V} {ds : List D}, RpAll K F vs ds → ds.all flatD = true → inV w vs = ds.any fun y => eqd y e
  | _, _, .nil, _ => rfl
  | v :: vs, d :: ds, .cons r t, h => by
    rw [List.all_cons, Bool.and_eq_true] at h
    have ih := inV_eq q h2 t h.2
    unfold inV at ih ⊢
    rw [List.any_cons, List.any_cons, ih, eqV_eqd r q h.1 h2]
theorem one_of {x : Str} (h : x.cps.size = 1) : x = ⟨#[x.cps.getD 0 0]⟩ := by
  obtain ⟨cps⟩ := x
  simp only at h ⊢
  congr 1
  apply Array.ext
  · simp [h]
  · intro i h1 h2
    have : i = 0 := by omega
    subst this
    simp [Array.getD, h]
theorem any_py (d : D) (hd : plain 60 d = true) : ∀ ds : List D, plains 60 ds = true → ((pyA ds).any fun z => PyData.eqv z (pyO d)) = ds.any fun y => eqd y d
  | [], _ => rfl
  | y :: ds, h => by
    have h : (plain 60 y && plains 60 ds) = true := h
    rw [Bool.and_eq_true] at h
    show (PyData.eqv (pyO y) (pyO d) || (pyA ds).any fun z => PyData.eqv z (pyO d)) = _
    rw [eqd_py 60 60 y d h.1 hd, any_py d hd ds h.2]
    rfl
theorem in_deep {pins : List (Addr × Obj)} {s : Shared} {σ : L2.St} {H F : Hp} {x : V} {v u : Value} {a : Addr} {xs : List V} {d : D} {ds : List D} {Q : VK} (hu : X.A.units + 64 < cLine) (I : Inv X pins σ H s) (hz : Fz F H) (rx : RelV x v) (ry : RelV (.ref a) u) (rd : Rp X.K F x d) (hs : SqT X.K F a xs ∨ F a = some (.lst xs)) (r1 : RpAll X.K F xs ds) (hd : plain 60 d = true) (hds : plains 60 ds = true) :
    (Q (.bl (ds.any fun y => eqd y d)) H → wpAny (model X.prog X.w) X.A (compareOp .In v u) (EP X pins σ Q) X.xe s) ∧ (Q (.bl (!ds.any fun y => eqd y d)) H → wpAny (model X.prog X.w) X.A (compareOp .NotIn v u) (EP X pins σ Q) X.xe s) := by
  obtain ⟨a1, a2, a3⟩ := plain_py 60 d x hd (rd.mono hz.sub)
  obtain ⟨b1, b2, b3⟩ := plains_py 60 ds xs hds (r1.mono hz.sub)
  obtain ⟨as, q1⟩ := Dp.reads I _ x v a1 rx
  have room : X.A.units + 1 + min (PyData.depthAll (pyA ds)) (pyO d).depth < cLine := by omega
  rw [← any_py d hd ds hds]
  rcases hs with hs | hs
  · have c1 : Dp X.K H (.ref a) (.tuple (pyA ds)) := Dp.tup (hz.sub.st hs) b1
    obtain ⟨bs, q2⟩ := Dp.reads I _ (.ref a) u c1 ry
    exact ⟨fun q => SeqAt.in_tuple_reads q2 q1 b2 a2 room ⟨.bl _, H, I, rfl, q⟩, fun q => SeqAt.notIn_tuple_reads q2 q1 b2 a2 room ⟨.bl _, H, I, rfl, q⟩⟩
  · have c1 : Dp X.K H (.ref a) (.list (pyA ds)) := Dp.lst (SqL.of (hz.sub _ _ hs)) b1
    obtain ⟨bs, q2⟩ := Dp.reads I _ (.ref a) u c1 ry
    exact ⟨fun q => SeqAt.in_list_reads q2 q1 b2 a2 room ⟨.bl _, H, I, rfl, q⟩, fun q => SeqAt.notIn_list_reads q2 q1 b2 a2 room ⟨.bl _, H, I, rfl, q⟩⟩
theorem o_in (hu : X.A.units + 64 < cLine) : OpR X (compareOp .In) (rD2 X.K T inD) := by
  intro pins s σ H x y v u Q I rx ry h
  obtain ⟨F, d, e, z, hz, rd, re, hG, q⟩ := h
  unfold inD at hG
  cases hb : inB d e with
  | none => rw [hb] at hG; cases hG
  | some b =>
    rw [hb] at hG
    cases hG
    cases re with
    | str y =>
      cases rd with
      | str x =>
        have hb : some (hasS x y) = some b := hb
        unfold hasS at hb
        split at hb
        · rename_i h1
          cases hb
          exact op_in_sign pins s σ H _ _ v u Q I rx ry ⟨x.cps.getD 0 0, y, congrArg V.str (one_of h1), rfl, done0 hz q (.bl _)⟩
        · cases hb
          exact op_in_str pins s σ H _ _ v u Q I rx ry ⟨x, y, rfl, rfl, done0 hz q (.bl _)⟩
      | _ => cases hb
    | tup h1 r1 =>
      rename_i a xs ds
      have hb : inL d ds = some b := by
        cases d <;> exact hb
      unfold inL at hb
      split at hb
      · rename_i hf
        rw [Bool.and_eq_true] at hf
        cases hb
        refine op_in_seq pins s σ H _ _ v u Q I rx ry ⟨a, xs, rfl, .inr (hz.sub.st h1), flat_rp rd hf.1, flat_all r1 hf.2, ?_⟩
        rw [inV_eq rd hf.1 r1 hf.2]
        exact done0 hz q (.bl _)
      · split at hb
        · rename_i hf
          rw [Bool.and_eq_true] at hf
          cases hb
          exact (in_deep hu I hz rx ry rd (.inl h1) r1 hf.1 hf.2).1 (done0 hz q (.bl _))
        · cases hb
    | lst h1 r1 =>
      rename_i a xs ds
      have hb : inL d ds = some b := by
        cases d <;> exact hb
      unfold inL at hb
      split at hb
      · rename_i hf
        rw [Bool.and_eq_true] at hf
        cases hb
        refine op_in_seq pins s σ H _ _ v u Q I rx ry ⟨a, xs, rfl, .inl (SqL.of (hz.sub _ _ h1)), flat_rp rd hf.1, flat_all r1 hf.2, ?_⟩
        rw [inV_eq rd hf.1 r1 hf.2]
        exact done0 hz q (.bl _)
      · split at hb
        · rename_i hf
          rw [Bool.and_eq_true] at hf
          cases hb
          exact (in_deep hu I hz rx ry rd (.inr h1) r1 hf.1 hf.2).1 (done0 hz q (.bl _))
        · cases hb
    | _ => cases rd <;> cases hb
end
end DN
namespace DN
open PySem PySem.Spec PyProof.Rows L2
open LamX (Tabs ExtN)

/-! ### statements -/
inductive SR where
  | nx (ρ : Rho) | rt (d : D) | bk (ρ : Rho) | ct (ρ : Rho) | ex (n : Str) (ρ : Rho) | bad
def bindS {α : Type} (r : Res α) (ρ : Rho) (k : α → SR) : SR := match r with
  | .ok a => k a
  | .ex n => .ex n ρ
  | .bad => .bad
/-- the frame's own objects are new since the entry -/
def Ow (H0 : Hp) (σ : L2.St) (ρ : Rho) : Prop := ∀ (i : Nat) (d : D) (p : Addr), ρ[i]? = some (En.o d) → σ[i]? = some (some (V.ref p)) → ∀ o, H0 p = some o → ∃ ps, o = .tbl ps
structure Sg (K : PySem.W.Frag) (T : List (Addr × Str)) (F0 H0 F H : Hp) (σ : L2.St) (ρ : Rho) : Prop where
  at_ : At K T F H σ ρ
  nx : Nx T F0 H0 F H
  ow : Ow H0 σ ρ
def aftS (K : PySem.W.Frag) (T : List (Addr × Str)) (W : WX) (F0 H0 F : Hp) (Z : Ends) : SR → Prop
  | .nx ρ => ∀ σ F' H', Sg K T F0 H0 F' H' σ ρ → Sub F F' → Z.nx σ H'
  | .bk ρ => ∀ σ F' H', Sg K T F0 H0 F' H' σ ρ → Sub F F' → Z.bk σ H'
  | .ct ρ => ∀ σ F' H', Sg K T F0 H0 F' H' σ ρ → Sub F F' → Z.ct σ H'
  | .rt d => ∀ v F' H', Nx T F0 H0 F' H' → Rp K F' v d → Z.rt v H'
  | .ex n ρ => ∀ σ F' H', Sg K T F0 H0 F' H' σ ρ → Sub F F' → W (.ref (He.ga K n)) none σ H'
  | .bad => False
def tS (K : PySem.W.Frag) (T : List (Addr × Str)) (W : WX) (F0 H0 : Hp) (s : Rho → SR) : TS := fun Z σ H => ∃ ρ F, Sg K T F0 H0 F H σ ρ ∧ aftS K T W F0 H0 F Z (s ρ)
abbrev DS (X : Cx) (T : List (Addr × Str)) (W : WX) (F0 H0 : Hp) (st : Stmt) (s : Rho → SR) : Prop := PS X st (tS X.K T W F0 H0 s)
abbrev DSs (X : Cx) (T : List (Addr × Str)) (W : WX) (F0 H0 : Hp) (st : List Stmt) (s : Rho → SR) : Prop := PSs X st (tS X.K T W F0 H0 s)
section
variable {K : PySem.W.Frag} {T : List (Addr × Str)} {W : WX} {F0 H0 F H F1 H1 : Hp} {σ : L2.St} {ρ : Rho} {Z : Ends}
theorem Sg.step (g : Sg K T F0 H0 F H σ ρ) (n : Nx T F H F1 H1) : Sg K T F0 H0 F1 H1 σ ρ := ⟨g.at_.nx n, g.nx.trans n, g.ow⟩
theorem aftS.mono {r : SR} (e : Sub F F1) (h : aftS K T W F0 H0 F Z r) : aftS K T W F0 H0 F1 Z r := by
  cases r with
  | nx ρ => exact fun σ F' H' g s => h σ F' H' g (e.trans s)
  | bk ρ => exact fun σ F' H' g s => h σ F' H' g (e.trans s)
  | ct ρ => exact fun σ F' H' g s => h σ F' H' g (e.trans s)
  | ex n ρ => exact fun σ F' H' g s => h σ F' H' g (e.trans s)
  | rt d => exact h
  | bad => exact h
theorem aftS.bind {α β : Type} {R : Hp → α → β → Prop} {r : Res β} {k : β → SR} (g : Sg K T F0 H0 F H σ ρ) (h : aftS K T W F0 H0 F Z (bindS r ρ k)) :
    aft R K T W σ F H (fun a H1 => ∃ b F1, r = .ok b ∧ Nx T F H F1 H1 ∧ Sg K T F0 H0 F1 H1 σ ρ ∧ R F1 a b ∧ aftS K T W F0 H0 F1 Z (k b)) r := by
  cases r with
  | ok b => exact fun a F2 H2 n ra => ⟨b, F2, rfl, n, g.step n, ra, aftS.mono n.f h⟩
  | ex m => exact fun F' H' n => h σ F' H' (g.step n) n.f
  | bad => exact h
theorem Ow.set {i : Nat} {v : V} {d : D} (o : Ow H0 σ ρ) : Ow H0 (σ.set i (some v)) (ρ.set i (.z d)) := fun j e p h1 h2 => by
  rw [List.getElem?_set] at h1 h2
  by_cases hij : i = j
  · rw [if_pos hij] at h1
    split at h1 <;> cases h1
  · rw [if_neg hij] at h1 h2
    exact o j e p h1 h2
end
def sskip : Rho → SR := fun ρ => .nx ρ
def sseq (s t : Rho → SR) : Rho → SR := fun ρ => match s ρ with
  | .nx ρ' => t ρ'
  | r => r
def sret (f : Rho → Res D) : Rho → SR := fun ρ => bindS (f ρ) ρ .rt
def sif (c : Rho → Res Bool) (s t : Rho → SR) : Rho → SR := fun ρ => bindS (c ρ) ρ fun b => if b = true then s ρ else t ρ
/-- targets -/
abbrev Tg := Rho → D → Option Rho
abbrev Tgs := Rho → List D → Option Rho
def gn (i : Nat) : Tg := fun ρ d => some (ρ.set i (.z d))
def gsn : Tgs := fun ρ ds => match ds with
  | [] => some ρ
  | _ => none
def gsc (g : Tg) (h : Tgs) : Tgs := fun ρ ds => match ds with
  | d :: r => (g ρ d).bind fun ρ' => h ρ' r
  | [] => none
def gt (n : Nat) (h : Tgs) : Tg := fun ρ d => match d with
  | .tup ds => if ds.length = n then h ρ ds else none
  | .lst ds => if ds.length = n then h ρ ds else none
  | _ => none
def sasg (f : Rho → Res D) (g : Tg) : Rho → SR := fun ρ => bindS (f ρ) ρ fun d => match g ρ d with
  | some ρ' => .nx ρ'
  | none => .bad
def tGd (K : PySem.W.Frag) (T : List (Addr × Str)) (g : Tg) : TG := fun v σ H Q => ∃ ρ F d ρ', At K T F H σ ρ ∧ Rp K F v d ∧ g ρ d = some ρ' ∧ ∀ σ', At K T F H σ' ρ' → (∀ H0, Ow H0 σ ρ → Ow H0 σ' ρ') → Q σ' H
def tGs (K : PySem.W.Frag) (T : List (Addr × Str)) (g : Tgs) : TGs := fun vs σ H Q => ∃ ρ F ds ρ', At K T F H σ ρ ∧ RpAll K F vs ds ∧ g ρ ds = some ρ' ∧ ∀ σ', At K T F H σ' ρ' → (∀ H0, Ow H0 σ ρ → Ow H0 σ' ρ') → Q σ' H
theorem _root_.L2.PG.to {X : Cx} {e : Expr} {t u : TG} (h : PG X e t) (k : ∀ v σ H Q, u v σ H Q → t v σ H Q) : PG X e u := ⟨fun pins s σ H v w Q I r q => h.run pins s σ H v w Q I r (k v σ H Q q)⟩
theorem _root_.L2.PG.or {X : Cx} {e : Expr} {t u : TG} (h : PG X e t) (h2 : PG X e u) : PG X e (fun v σ H Q => t v σ H Q ∨ u v σ H Q) := ⟨fun pins s σ H v w Q I r q => q.elim (h.run pins s σ H v w Q I r) (h2.run pins s σ H v w Q I r)⟩
theorem _root_.L2.PGs.to {X : Cx} {es : List Expr} {t u : TGs} (h : PGs X es t) (k : ∀ v σ H Q, u v σ H Q → t v σ H Q) : PGs X es u := ⟨fun pins s σ H v w Q I r q => h.run pins s σ H v w Q I r (k v σ H Q q)⟩
section
variable {X : Cx} {T : List (Addr × Str)} {W : WX} {F0 H0 : Hp}
abbrev DG (X : Cx) (T : List (Addr × Str)) (e : Expr) (g : Tg) : Prop := PG X e (tGd X.K T g)
abbrev DGs (X : Cx) (T : List (Addr × Str)) (es : List Expr) (g : Tgs) : Prop := PGs X es (tGs X.K T g)
theorem g_name {i : Nat} {e : Expr} (h : PG X e (gName i)) : DG X T e (gn i) := h.to fun v σ H Q ⟨ρ, F, d, ρ', a, r, hg, q⟩ => by
  cases hg
  exact q _ ⟨a.z, a.t, a.r.set r⟩ fun H0 o => o.set
theorem gs_nil : DGs X T [] gsn := pgs_nil.to fun v σ H Q ⟨ρ, F, d, ρ', a, r, hg, q⟩ => by
  cases d with
  | nil =>
    cases r
    cases hg
    exact ⟨rfl, q σ a fun _ o => o⟩
  | cons _ _ => cases hg
theorem gs_cons {e : Expr} {es : List Expr} {g : Tg} {h : Tgs} (h1 : DG X T e g) (h2 : DGs X T es h) (hs : (assignEach (e :: es) X.env).map (·.2) = assign e X.env :: (assignEach es X.env).map (·.2) := by rfl) : DGs X T (e :: es) (gsc g h) :=
  (pgs_cons h1 h2 hs).to fun v σ H Q ⟨ρ, F, d, ρ', a, r, hg, q⟩ => by
    cases d with
    | nil => cases hg
    | cons d ds =>
      cases r with
      | cons r1 r2 =>
        have hg : (g ρ d).bind (fun ρ' => h ρ' ds) = some ρ' := hg
        cases e1 : g ρ d with
        | none => rw [e1] at hg; cases hg
        | some ρ1 =>
          rw [e1] at hg
          have hg : h ρ1 ds = some ρ' := hg
          refine ⟨_, _, rfl, ρ, F, d, ρ1, a, r1, e1, fun σ1 a1 o1 => ?_⟩
          exact ⟨ρ1, F, ds, ρ', a1, r2, hg, fun σ2 a2 o2 => q σ2 a2 fun H0 o => o2 H0 (o1 H0 o)⟩
theorem g_tup {es : List Expr} {k : Nat} {pos : Pos} {h : Tgs} {n : Nat} (hc : X.calm = true) (h1 : DGs X T es h) (hn : (assignEach es X.env).length = n := by rfl) (hst : (assignEach es X.env).findIdx? (·.1) = none := by rfl) : DG X T (.Tuple es k pos) (gt n h) :=
  (PG.or (pg_tup hc h1 hn hst) (pg_unl hc h1 hn hst)).to fun v σ H Q ⟨ρ, F, d, ρ', a, r, hg, q⟩ => by
    cases r with
    | @tup ad xs ds h1 r1 =>
      have hg : (if ds.length = n then h ρ ds else none) = some ρ' := hg
      split at hg
      · rename_i hl
        exact .inl ⟨ad, xs, rfl, a.z.sub.st h1, by rw [r1.length]; exact hl, ρ, F, ds, ρ', a, r1, hg, q⟩
      · cases hg
    | @lst ad xs ds h1 r1 =>
      have hg : (if ds.length = n then h ρ ds else none) = some ρ' := hg
      split at hg
      · rename_i hl
        exact .inr ⟨ad, xs, rfl, SqL.of (a.z.sub _ _ h1), by rw [r1.length]; exact hl, ρ, F, ds, ρ', a, r1, hg, q⟩
      · cases hg
    | _ => cases hg
theorem s_nil : DSs X T W F0 H0 [] sskip := pss_nil.to fun Z σ H ⟨ρ, F, g, h⟩ => h σ F H g (Sub.refl F)
theorem s_one {st : Stmt} {s : Rho → SR} (h : DS X T W F0 H0 st s) : DSs X T W F0 H0 [st] s := pss_one h
theorem s_cons {st : Stmt} {rest : List Stmt} {s t : Rho → SR} (h : DS X T W F0 H0 st s) (h2 : DSs X T W F0 H0 rest t) : DSs X T W F0 H0 (st :: rest) (sseq s t) :=
  (pss_cons h h2).to fun Z σ H ⟨ρ, F, g, h⟩ => by
    refine ⟨ρ, F, g, ?_⟩
    unfold sseq at h
    cases e : s ρ with
    | nx ρ' =>
      rw [e] at h
      exact fun σ' F' H' g' sb => ⟨ρ', F', g', aftS.mono sb h⟩
    | bk ρ' => rw [e] at h; exact h
    | ct ρ' => rw [e] at h; exact h
    | rt d => rw [e] at h; exact h
    | ex n ρ' => rw [e] at h; exact h
    | bad => rw [e] at h; exact h
theorem s_ret {e : Expr} {pos : Pos} {f : Rho → Res D} (h : DE X T W e f) : DS X T W F0 H0 (.Return (some e) pos) (sret f) :=
  (ps_ret h).to fun Z σ H ⟨ρ, F, g, h⟩ => by
    refine ⟨ρ, F, g.at_, (aftS.bind (R := Rp X.K) g h).imp fun d _ v F1 H1 _ _ q => ?_⟩
    obtain ⟨b, F2, _, n, g2, rv, q⟩ := q
    exact q v F2 H1 g2.nx rv
theorem s_if {c : Expr} {a b : List Stmt} {pos : Pos} {f : Rho → Res Bool} {s t : Rho → SR} (hc : DQ X T W c f) (ha : DSs X T W F0 H0 a s) (hb : DSs X T W F0 H0 b t) : DS X T W F0 H0 (.If c a b pos) (sif f s t) :=
  (ps_if hc ha hb).to fun Z σ H ⟨ρ, F, g, h⟩ => by
    refine ⟨ρ, F, g.at_, (aftS.bind (R := RBool) g h).imp fun d _ v F1 H1 _ _ q => ?_⟩
    obtain ⟨b, F2, _, n, g2, rv, q⟩ := q
    obtain rfl : v = b := rv
    cases v with
    | true => exact ⟨ρ, F2, g2, q⟩
    | false => exact ⟨ρ, F2, g2, q⟩
theorem sasg_to {f : Rho → Res D} {g : Tg} {K : PySem.W.Frag} {Z : Ends} {σ : L2.St} {H : Hp} (h : tS K T W F0 H0 (sasg f g) Z σ H) : tAsg (tE K T W f) (tGd K T g) Z σ H := by
  obtain ⟨ρ, F, gg, h⟩ := h
  refine ⟨ρ, F, gg.at_, (aftS.bind (R := Rp K) gg h).imp fun d _ v F1 H1 _ _ q => ?_⟩
  obtain ⟨b, F2, _, n, g2, rv, q⟩ := q
  cases e : g ρ b with
  | none => rw [e] at q; exact q.elim
  | some ρ' =>
    rw [e] at q
    exact ⟨ρ, F2, b, ρ', g2.at_, rv, e, fun σ' a' o' => q σ' F2 H1 ⟨a', g2.nx, o' H0 g2.ow⟩ (Sub.refl F2)⟩
theorem s_asg {tg e : Expr} {pos : Pos} {f : Rho → Res D} {g : Tg} (he : DE X T W e f) (hg : DG X T tg g) (hs : swapsWithSole [tg] e pos.line X.env = pure false := by rfl) (hw : swappedStores [tg] e X.env = pure none := by rfl)
    (h1 : (assignEach [tg] X.env).map (·.2) = [assign tg X.env] := by rfl) : DS X T W F0 H0 (.Assign [tg] e pos) (sasg f g) :=
  (ps_asg he hg hs hw h1).to fun Z σ H h => sasg_to h
end

/-! ### while -/
def whileD (c : Rho → Res Bool) (s : Rho → SR) : Nat → Rho → SR
  | 0, _ => .bad
  | n + 1, ρ => bindS (c ρ) ρ fun b => if b = true then (match s ρ with
    | .nx ρ' => whileD c s n ρ'
    | .ct ρ' => whileD c s n ρ'
    | .bk ρ' => .nx ρ'
    | r => r) else .nx ρ
section
variable {X : Cx} {T : List (Addr × Str)} {W : WX} {F0 H0 : Hp}
theorem s_while {c : Expr} {body : List Stmt} {pos : Pos} {f : Rho → Res Bool} {s : Rho → SR} (N : Nat) (hp : PassesOwn (model X.prog X.w) X.A X.env X.xe) (hc : DQ X T W c f) (hb : DSs X T W F0 H0 body s) : DS X T W F0 H0 (.While c body [] pos) (whileD f s N) :=
  (ps_while hp hc hb).to fun Z σ H ⟨ρ, F, g, h⟩ => by
    refine ⟨fun m σ H => ∃ ρ F', Sg X.K T F0 H0 F' H σ ρ ∧ aftS X.K T W F0 H0 F' Z (whileD f s m ρ), ⟨N, ρ, F, g, h⟩, ?_⟩
    rintro m σ H ⟨ρ, F1, g, h⟩
    cases m with
    | zero => exact h.elim
    | succ m =>
      refine ⟨ρ, F1, g.at_, (aftS.bind (R := RBool) g h).imp fun d _ v F2 H2 _ _ q => ?_⟩
      obtain ⟨b, F3, _, n, g2, rv, q⟩ := q
      obtain rfl : v = b := rv
      cases v with
      | false => exact q σ F3 H2 g2 (Sub.refl F3)
      | true =>
        refine ⟨fun σ' H' => ∃ ρ' F', Sg X.K T F0 H0 F' H' σ' ρ' ∧ aftS X.K T W F0 H0 F' Z (whileD f s m ρ'), fun σ' H' w => ⟨m, Nat.lt_succ_self m, w⟩, ρ, F3, g2, ?_⟩
        have q : aftS X.K T W F0 H0 F3 Z (match s ρ with
          | .nx ρ' => whileD f s m ρ'
          | .ct ρ' => whileD f s m ρ'
          | .bk ρ' => .nx ρ'
          | r => r) := q
        cases e : s ρ with
        | nx ρ' => rw [e] at q; exact fun σ' F' H' g' sb => ⟨ρ', F', g', aftS.mono sb q⟩
        | ct ρ' => rw [e] at q; exact fun σ' F' H' g' sb => ⟨ρ', F', g', aftS.mono sb q⟩
        | bk ρ' => rw [e] at q; exact q
        | rt d => rw [e] at q; exact q
        | ex n ρ' => rw [e] at q; exact q
        | bad => rw [e] at q; exact q
end

/-! ### what is walked -/
/-- the walk J gives ds, while F is frozen -/
def Walks (K : PySem.W.Frag) (T : List (Addr × Str)) (F : Hp) (J : It) (ds : List D) : Prop :=
  ∀ (i : Nat) (F' H : Hp), Sub F F' → Fz F' H → (∀ d, ds[i]? = some d → J.go i H ∧ ∀ x H', J.yld i H x H' → ∃ F2, Nx T F' H F2 H' ∧ Rp K F2 x d) ∧ (ds.length ≤ i → J.stop i H)
def tI (K : PySem.W.Frag) (T : List (Addr × Str)) (W : WX) (f : Rho → Res (List D)) : TI := tG (fun K F J ds => Walks K T F J ds) K T W f
abbrev DI (X : Cx) (T : List (Addr × Str)) (W : WX) (tg iter : Expr) (f : Rho → Res (List D)) : Prop := PI X tg iter (tI X.K T W f)
theorem _root_.L2.PI.to {X : Cx} {tg e : Expr} {t u : TI} (h : PI X tg e t) (k : ∀ σ H R, u σ H R → t σ H R) : PI X tg e u := ⟨fun pins s σ H R I q => h.run pins s σ H R I (k σ H R q)⟩
theorem _root_.L2.PI.or {X : Cx} {tg e : Expr} {t u : TI} (h : PI X tg e t) (h2 : PI X tg e u) : PI X tg e (fun σ H R => t σ H R ∨ u σ H R) := ⟨fun pins s σ H R I q => q.elim (h.run pins s σ H R I) (h2.run pins s σ H R I)⟩
def loopD (g : Tg) (s : Rho → SR) : List D → Rho → SR
  | [], ρ => .nx ρ
  | d :: ds, ρ => match g ρ d with
    | none => .bad
    | some ρ1 => match s ρ1 with
      | .nx ρ' => loopD g s ds ρ'
      | .ct ρ' => loopD g s ds ρ'
      | .bk ρ' => .nx ρ'
      | r => r
def sfor (f : Rho → Res (List D)) (g : Tg) (s : Rho → SR) : Rho → SR := fun ρ => bindS (f ρ) ρ fun ds => loopD g s ds ρ
section
variable {X : Cx} {T : List (Addr × Str)} {W : WX} {F0 H0 : Hp}
theorem s_for {tg iter : Expr} {body : List Stmt} {pos : Pos} {f : Rho → Res (List D)} {g : Tg} {s : Rho → SR} (hp : PassesOwn (model X.prog X.w) X.A X.env X.xe) (hc : X.calm = true) (hi : DI X T W tg iter f) (hg : DG X T tg g) (hb : DSs X T W F0 H0 body s)
    (hs : ∀ x, foldedSetIterable iter X.env x = pure x := by intro _; rfl) : DS X T W F0 H0 (.For tg iter body [] pos) (sfor f g s) :=
  (ps_for hp hc hi hg hb hs).to fun Z σ H ⟨ρ, F, gg, h⟩ => by
    refine ⟨ρ, F, gg.at_, (aftS.bind (R := fun F J ds => Walks X.K T F J ds) gg h).imp fun d _ J F1 H1 _ _ q => ?_⟩
    obtain ⟨ds, F2, _, n, g2, wk, q⟩ := q
    refine ⟨fun i m σ H => m = ds.length - i ∧ i ≤ ds.length ∧ ∃ ρ F', Sg X.K T F0 H0 F' H σ ρ ∧ Sub F2 F' ∧ aftS X.K T W F0 H0 F' Z (loopD g s (ds.drop i) ρ), ⟨ds.length, by omega, by omega, ρ, F2, g2, Sub.refl F2, q⟩, ?_⟩
    rintro i m σ H ⟨rfl, hi, ρ, F3, g3, sb, q⟩
    obtain ⟨wg, ws⟩ := wk i F3 H sb g3.at_.z
    by_cases hlt : i < ds.length
    · have e : ds[i]? = some ds[i] := List.getElem?_eq_getElem hlt
      obtain ⟨go, yl⟩ := wg _ e
      refine .inr ⟨go, fun σ' H' => ∃ ρ' F', Sg X.K T F0 H0 F' H' σ' ρ' ∧ Sub F2 F' ∧ aftS X.K T W F0 H0 F' Z (loopD g s (ds.drop (i + 1)) ρ'), fun σ' H' w => ⟨ds.length - (i + 1), by omega, rfl, by omega, w⟩, fun x H' y => ?_⟩
      obtain ⟨F4, n4, rx⟩ := yl x H' y
      rw [List.drop_eq_getElem_cons hlt] at q
      have g4 := g3.step n4
      have q : aftS X.K T W F0 H0 F3 Z (match g ρ ds[i] with
        | none => .bad
        | some ρ1 => match s ρ1 with
          | .nx ρ' => loopD g s (ds.drop (i + 1)) ρ'
          | .ct ρ' => loopD g s (ds.drop (i + 1)) ρ'
          | .bk ρ' => .nx ρ'
          | r => r) := q
      cases eg : g ρ ds[i] with
      | none => rw [eg] at q; exact q.elim
      | some ρ1 =>
        rw [eg] at q
        have q : aftS X.K T W F0 H0 F3 Z (match s ρ1 with
          | .nx ρ' => loopD g s (ds.drop (i + 1)) ρ'
          | .ct ρ' => loopD g s (ds.drop (i + 1)) ρ'
          | .bk ρ' => .nx ρ'
          | r => r) := q
        refine ⟨ρ, F4, ds[i], ρ1, g4.at_, rx, eg, fun σ1 a1 o1 => ⟨ρ1, F4, ⟨a1, g4.nx, o1 H0 g4.ow⟩, ?_⟩⟩
        cases e2 : s ρ1 with
        | nx ρ' => rw [e2] at q; exact fun σ' F' H' g' sb' => ⟨ρ', F', g', (sb.trans n4.f).trans sb', aftS.mono (n4.f.trans sb') q⟩
        | ct ρ' => rw [e2] at q; exact fun σ' F' H' g' sb' => ⟨ρ', F', g', (sb.trans n4.f).trans sb', aftS.mono (n4.f.trans sb') q⟩
        | bk ρ' => rw [e2] at q; exact fun σ' F' H' g' sb' => q σ' F' H' g' (n4.f.trans sb')
        | rt d => rw [e2] at q; exact q
        | ex n ρ' => rw [e2] at q; exact fun σ' F' H' g' sb' => q σ' F' H' g' (n4.f.trans sb')
        | bad => rw [e2] at q; exact q
    · have e : i = ds.length := by omega
      subst e
      refine .inl ⟨ws (Nat.le_refl _), ?_⟩
      rw [List.drop_length] at q
      exact q σ F3 H g3 (Sub.refl F3)

/-! the walks -/
def itemsD : D → Res (List D)
  | .tup xs => .ok xs
  | .lst xs => .ok xs
  | .arr ns => .ok (ns.map .int)
  | .str x => .ok (x.cps.toList.map fun c => .str ⟨#[c]⟩)
  | _ => .bad
def its (f : Rho → Res D) : Rho → Res (List D) := fun ρ => (f ρ).bind itemsD
end
end DN
namespace DN
open PySem PySem.Spec PyProof.Rows L2
open LamX (Tabs ExtN)

/-! ### the walks of for and of comprehensions -/
section
variable {X : Cx} {T : List (Addr × Str)} {W : WX} {F0 H0 : Hp}
def rngD (lo : Int) (n : Nat) : List D := (List.range n).map fun (i : Nat) => D.int (lo + (i : Int))
theorem walks_rng {K : PySem.W.Frag} {F : Hp} {lo : Int} {n : Nat} : Walks K T F (Itr lo n) (rngD lo n) := fun i F' H sb z => by
  refine ⟨fun d hd => ?_, fun hle => ?_⟩
  · unfold rngD at hd
    rw [List.getElem?_map] at hd
    cases e : (List.range n)[i]? with
    | none => rw [e] at hd; cases hd
    | some j =>
      rw [e] at hd
      cases hd
      obtain ⟨h1, h2⟩ := List.getElem?_eq_some_iff.mp e
      rw [List.getElem_range] at h2
      rw [List.length_range] at h1
      subst h2
      refine ⟨h1, fun v H' y => ?_⟩
      obtain ⟨rfl, rfl⟩ := y
      exact ⟨F', Nx.refl z, .int _⟩
  · unfold rngD at hle
    rw [List.length_map, List.length_range] at hle
    exact hle
def rng1 (f : Rho → Res (List D)) : Rho → Res (List D) := fun ρ => (f ρ).bind fun ds => match ds with
  | [.int j] => if -(2 ^ 62) ≤ j ∧ j < 2 ^ 62 then .ok (rngD 0 j.toNat) else .bad
  | _ => .bad
theorem i_rng1 {tg a : Expr} {p pos : Pos} {f : Rho → Res (List D)} (hg : Gl X "range") (hm : X.mg "range" = none) (ha : DA X T W [a] f) (hs : starEach [a] X.env = [(false, eval a X.env)] := by rfl) : DI X T W tg (.Call (.Name "range" p) [a] [] pos) (rng1 f) :=
  (pi_range1 hg hm ha hs).to fun σ H R ⟨ρ, F, a, h⟩ => by
    refine ⟨ρ, F, a, (aft.bind (R := RpAll X.K) h).imp fun d _ v F1 H1 _ _ q => ?_⟩
    obtain ⟨ds, F2, _, n, rv, q⟩ := q
    match ds, rv, q with
    | [.int j], .cons (.int _) .nil, q =>
      have q : aft (fun F J ds => Walks X.K T F J ds) X.K T W σ F2 H1 R (if -(2 ^ 62) ≤ j ∧ j < 2 ^ 62 then .ok (rngD 0 j.toNat) else .bad) := q
      split at q
      · rename_i hj
        exact ⟨j, rfl, hj.1, hj.2, q _ F2 H1 (Nx.refl n.z) walks_rng⟩
      · exact q.elim
end

/-! ### comprehensions -/
section
variable {X : Cx} {T : List (Addr × Str)} {W : WX} {F0 H0 : Hp}
end

/-! ### defs -/
def startR (n : Nat) (ds : List D) : Rho := ds.map En.z ++ List.replicate (n - ds.length) .u
def runB (n : Nat) (s : Rho → SR) (ds : List D) : Res D := match s (startR n ds) with
  | .nx _ => .ok .non
  | .rt d => .ok d
  | .ex m _ => .ex m
  | _ => .bad
abbrev WofE (E : XK) : WX := fun cls d _ H => E cls d H
def spD (K : PySem.W.Frag) (T : List (Addr × Str)) (n : Nat) (den : List D → Res D) : Sp := fun vs H Q E => ∃ F ds, Fz F H ∧ Tabs T H ∧ RpAll K F vs ds ∧ ds.length = n ∧ aft (Rp K) K T (WofE E) [] F H Q (den ds)
def callD (n : Nat) (den : List D → Res D) (f : Rho → Res (List D)) : Rho → Res D := fun ρ => (f ρ).bind fun ds => if ds.length = n then den ds else .bad
theorem Rl.start {K : PySem.W.Frag} {F H : Hp} {vs : List V} {ds : List D} {N : List Str} (r : RpAll K F vs ds) : Rl K F H (L2.start N vs) (startR N.length ds) := by
  have hl := r.length
  have key : ∀ (i : Nat) (en : En), (startR N.length ds)[i]? = some en → (∃ d, ds[i]? = some d ∧ en = .z d) ∨ en = .u := fun i en h => by
    unfold startR at h
    rw [List.getElem?_append] at h
    split at h
    · rw [List.getElem?_map] at h
      cases e : ds[i]? with
      | none => rw [e] at h; cases h
      | some d => rw [e] at h; cases h; exact .inl ⟨d, rfl, rfl⟩
    · rw [List.getElem?_replicate] at h
      split at h
      · cases h; exact .inr rfl
      · cases h
  refine ⟨?_, fun i d h => ?_, fun i d h => ?_, fun i j d e p q _ h => ?_⟩
  · unfold L2.start startR
    simp [hl]
  · rcases key i _ h with ⟨d', e, z⟩ | z
    · cases z
      obtain ⟨v, hv, rv⟩ := r.get e
      refine ⟨v, ?_, rv⟩
      unfold L2.start
      rw [List.getElem?_append_left (by rw [List.length_map]; exact (List.getElem?_eq_some_iff.mp hv).1), List.getElem?_map, hv]
      rfl
    · cases z
  · rcases key i _ h with ⟨d', e, z⟩ | z <;> cases z
  · rcases key i _ h with ⟨d', e, z⟩ | z <;> cases z
structure OkD (P : Program) (w : World) (K : PySem.W.Frag) (mg : Str → Option Value) (base : Heap) (T : List (Addr × Str)) (k : Nat) (x : Str) (n : Nat) (den : List D → Res D) : Prop where
  ex : ∃ fd ps, FnOk P w K mg base (L2.CX P w) k (He.ga K x) fd ps (spD K T n den) ∧ Binds K fd ps []
  kp : PySem.W.keepIn K (.ref (He.ga K x)) = true
  mg : mg x = some (.ref (He.ga K x))
theorem fn_ok {P : Program} {w : World} {K : PySem.W.Frag} {mg : Str → Option Value} {base : Heap} {T : List (Addr × Str)} {k : Nat} {x qual : Str} {params : Arguments} {body : List Stmt} {scope : Scope} {kws : List (Str × V)} {f : Addr} {fd : FuncData} {N ps : List Str} {n : Nat} {s : Rho → SR}
    (Fd : FunD K x qual params body scope [] kws f fd) (S : FnScope N ps scope) (hn : ps.length = n)
    (hb : ∀ (cdv : Value) (A : Around) (outer : List Env) (s0 : Shared) (H0 : Hp) (E : XK) (F0 : Hp), Room k (A.deeper (envOfC qual scope s0.heap.objs.size f cdv)) → DSs (cxOf (L2.CX P w) P w K mg base N qual scope f cdv A outer s0 H0 E) T (WofE E) F0 H0 body s) :
    FnOk P w K mg base (L2.CX P w) (k + 1) f fd ps (spD K T n (runB N.length s)) := by
  refine Fd.ok S (fun vs H Q E h => ?_) fun cdv A outer s0 H vs Q E hr h => ?_
  · obtain ⟨F, ds, _, _, r, hl, _⟩ := h
    rw [r.length, hl, hn]
  · obtain ⟨F, ds, z, tb, r, hl, h⟩ := h
    refine ⟨_, hb cdv A outer s0 H E F hr, startR N.length ds, F, ⟨⟨z, tb, Rl.start r⟩, Nx.refl z, fun i d p h1 => ?_⟩, ?_⟩
    · exfalso
      have o := (Rl.start (K := K) (F := F) (H := H) (N := N) r)
      unfold startR at h1
      rw [List.getElem?_append] at h1
      split at h1
      · rw [List.getElem?_map] at h1
        cases e : ds[i]? with
        | none => rw [e] at h1; cases h1
        | some d => rw [e] at h1; cases h1
      · rw [List.getElem?_replicate] at h1
        split at h1 <;> cases h1
    · unfold runB at h
      cases e : s (startR N.length ds) with
      | nx ρ => rw [e] at h; exact fun σ F' H' g _ => h .non F' H' g.nx .non
      | rt d => rw [e] at h; exact fun v F' H' nx rv => h v F' H' nx rv
      | ex m ρ => rw [e] at h; exact fun σ F' H' g _ => h F' H' g.nx
      | bk ρ => rw [e] at h; exact h.elim
      | ct ρ => rw [e] at h; exact h.elim
      | bad => rw [e] at h; exact h.elim
section
variable {X : Cx} {T : List (Addr × Str)} {W : WX} {F0 H0 : Hp}
theorem call_to {K : PySem.W.Frag} {n : Nat} {den : List D → Res D} {f : Rho → Res (List D)} {σ : L2.St} {H : Hp} {Q : VK} (h : tE K T W (callD n den f) σ H Q) : tCallS (spD K T n den) (WE W) (tA K T W f) σ H Q := by
  obtain ⟨ρ, F, a, h⟩ := h
  refine ⟨ρ, F, a, (aft.bind (R := RpAll K) h).imp fun d _ v F1 H1 _ _ q => ?_⟩
  obtain ⟨b, F2, _, nx, rv, q⟩ := q
  have q : aft (Rp K) K T W σ F2 H1 Q (if b.length = n then den b else .bad) := q
  split at q
  · rename_i hl
    refine ⟨F2, b, nx.z, nx.tab a.t, rv, hl, ?_⟩
    cases e : den b with
    | ok d => rw [e] at q; exact q
    | ex m => rw [e] at q; exact q
    | bad => rw [e] at q; exact q.elim
  · exact q.elim
theorem e_call {j k n : Nat} {x : Str} {den : List D → Res D} {e : Expr} {es : List Expr} {p pos : Pos} {f : Rho → Res (List D)} (O : OkD X.prog X.w X.K X.mg X.base T j x n den) (hr : Room k X.A) (tk : Takes X W) (hg : Gl X x) (ha : DA X T W (e :: es) f) (hj : j ≤ k := by decide)
    (hdb : (x == ("__debug__" : Str)) = false := by decide) (he : starEach (e :: es) X.env = (false, eval e X.env) :: starEach es X.env := by rfl) (hpl : (backTo pos (starEach es X.env)).any (·.1) = false := by rfl) :
    DE X T W (.Call (.Name x p) (e :: es) [] pos) (callD n den f) := by
  obtain ⟨fd, ps, G, b⟩ := O.ex
  exact (pe_callS (E := WE W) G (hr.mono hj) hg O.mg O.kp b (fun σ => passAt tk σ) ha hdb he hpl).to fun _ _ _ h => call_to h
/-- what is known of an own error class -/
structure ExcN (K : PySem.W.Frag) (mg : Str → Option Value) (x : Str) : Prop where
  e : PySem.W.excIn K (He.ga K x) He.veBase "ValueError.__new__" = true
  k : PySem.W.keepIn K (.ref (He.ga K x)) = true
  b : PySem.W.subIn K (.ref (He.ga K x)) (.type "BaseException") = some true
  t : PySem.W.typeIn K (.ref (He.ga K x)) = some (.type "type")
  g : mg x = some (.ref (He.ga K x))
def sraise (x : Str) : Rho → SR := fun ρ => .ex x ρ
theorem s_raise {x m : Str} {j : Nat} {p p2 pos pos2 : Pos} (N : ExcN X.K X.mg x) (hc : X.calm = true) (tk : Takes X W) (hg : Gl X x) (hdb : (x == ("__debug__" : Str)) = false := by decide) : DS X T W F0 H0 (.Raise (some (.Call (.Name x p) [.Constant (.str m) j p2] [] pos)) none pos2) (sraise x) :=
  (ps_raise hc tk (pmk_own PySem.F.excBase_ValueError N.e N.g N.k (raises_own N.b N.t) hg hdb)).to fun Z σ H ⟨ρ, F, g, h⟩ => h σ F H g (Sub.refl F)
end
end DN
namespace DN
open PySem PySem.Spec PyProof.Rows L2
open LamX (Tabs ExtN)

/-! ### the module's names -/
section
variable {X : Cx} {T : List (Addr × Str)} {W : WX}
theorem e_gint {x : Str} {i : Int} {pos : Pos} (h : ∃ t, X.mg x = some (.int i t)) (hg : Gl X x) (hd : (x == ("__debug__" : Str)) = false := by decide) : DE X T W (.Name x pos) (con (.int i)) := by
  obtain ⟨t, h⟩ := h
  exact e_c (pe_glob (v := .int i) hg h ⟨t, rfl⟩ hd) fun _ => .int i
theorem e_ty {x : Str} {n : String} {pos : Pos} (hm : X.mg x = none) (hv : bootBuiltins x = some (.type n)) (hg : Gl X x) (hn : x ≠ "__name__" := by decide) (hd : (x == ("__debug__" : Str)) = false := by decide) : DE X T W (.Name x pos) (con (.ty n)) :=
  e_c (pe_bltn (v := .ty n) hg hm hv rfl hn hd) fun F => .ty n
end
theorem bt_len : bootBuiltins "len" = some (.builtin "len") := by decide +kernel
theorem bt_abs : bootBuiltins "abs" = some (.builtin "abs") := by decide +kernel
theorem bt_max : bootBuiltins "max" = some (.builtin "max") := by decide +kernel
theorem bt_min : bootBuiltins "min" = some (.builtin "min") := by decide +kernel
theorem bt_isinstance : bootBuiltins "isinstance" = some (.builtin "isinstance") := by decide +kernel
theorem bt_int : bootBuiltins "int" = some (.type "int") := by decide +kernel
theorem bt_str : bootBuiltins "str" = some (.type "str") := by decide +kernel
theorem bt_bool : bootBuiltins "bool" = some (.type "bool") := by decide +kernel
/-! ### the end -/
theorem start_arr {K : PySem.W.Frag} {H : Hp} {a : Addr} {ns : List Int} (h : SqL K H a (ns.map V.int)) : ∃ F, Fz F H ∧ Rp K F (.ref a) (.arr ns) := by
  rcases h with (h | ⟨o, h⟩) | h
  · refine ⟨fun b => if b = a then some (.lst (ns.map V.int)) else none, ⟨fun b o e => ?_, fun b ps e => ?_⟩, .arr (.inl (.inl (if_pos rfl)))⟩
    · by_cases hb : b = a
      · rw [if_pos hb] at e; rw [hb, h]; exact e
      · rw [if_neg hb] at e; cases e
    · by_cases hb : b = a
      · rw [if_pos hb] at e; cases e
      · rw [if_neg hb] at e; cases e
  · refine ⟨fun b => if b = a then some (.frz o (.lst (ns.map V.int))) else none, ⟨fun b o e => ?_, fun b ps e => ?_⟩, .arr (.inl (.inr ⟨o, if_pos rfl⟩))⟩
    · by_cases hb : b = a
      · rw [if_pos hb] at e; rw [hb, h]; exact e
      · rw [if_neg hb] at e; cases e
    · by_cases hb : b = a
      · rw [if_pos hb] at e; cases e
      · rw [if_neg hb] at e; cases e
  · exact ⟨fun _ => none, ⟨(fun b o e => nomatch e), (fun b ps e => nomatch e)⟩, .arr (.inr h)⟩
theorem law_sp {K : PySem.W.Frag} {T : List (Addr × Str)} {H : Hp} {a : Addr} {ns : List Int} {den : List D → Res D} (hT : Tabs T H) (h : SqL K H a (ns.map V.int)) (hd : den [.arr ns] = .ok (.bl true)) : spD K T 1 den [.ref a] H (fun v _ => v = .bl true) fun _ _ _ => False := by
  obtain ⟨F, z, r⟩ := start_arr h
  refine ⟨F, [.arr ns], z, hT, .cons r .nil, rfl, ?_⟩
  rw [hd]
  intro v F' H' n rv
  cases rv
  rfl
theorem cx_false {P : Program} {w : World} {l : List Env} {H : Hp} {s : Shared} {e : Value} {s' : Shared} (h : L2.CX P w l H s (fun _ _ _ => False) e s') : False := by
  obtain ⟨_, _, _, _, _, _, _, _, _, _, _, _, z⟩ := h
  exact z.elim
end DN
namespace HT
open PySem PyProof.Rows
section
variable {prog : Program} {w : World} {A : Around} {E : Value → Shared → Prop} {s : Shared}
end
end HT
namespace DN
open PySem PySem.Spec PyProof.Rows L2
open LamX (Tabs ExtN)
section
variable {X : Cx}
end
theorem _root_.L2.PE.or {X : Cx} {e : Expr} {t u : TE} (h : PE X e t) (h2 : PE X e u) : PE X e (fun σ H Q => t σ H Q ∨ u σ H Q) := ⟨fun pins s σ H Q I q => q.elim (h.run pins s σ H Q I) (h2.run pins s σ H Q I)⟩
section
variable {X : Cx} {T : List (Addr × Str)} {W : WX}
end
end DN
namespace DN
open PySem PySem.Spec PyProof.Rows L2

/-! ### evaluating functions of data -/
def app2 (G : D → D → Option D) : Res D → Res D → Res D
  | .ok a, .ok b => ofO (G a b)
  | .ok _, .ex n => .ex n
  | .ok _, .bad => .bad
  | .ex n, _ => .ex n
  | .bad, _ => .bad
def app1 (G : D → Option D) (r : Res D) : Res D := r.bind fun a => ofO (G a)
def appL (G : List D → Option D) (r : Res (List D)) : Res D := r.bind fun a => ofO (G a)
def consR : Res D → Res (List D) → Res (List D)
  | .ok a, .ok b => .ok (a :: b)
  | .ok _, .ex n => .ex n
  | .ok _, .bad => .bad
  | .ex n, _ => .ex n
  | .bad, _ => .bad
def callR (n : Nat) (den : List D → Res D) (r : Res (List D)) : Res D := r.bind fun ds => if ds.length = n then den ds else .bad
def tstR (r : Res D) : Res Bool := r.bind ans
def seqR (r : SR) (t : Rho → SR) : SR := match r with
  | .nx ρ => t ρ
  | r => r
def retR (r : Res D) (ρ : Rho) : SR := bindS r ρ .rt
def asgR (r : Res D) (ρ : Rho) (g : Tg) : SR := bindS r ρ fun d => match g ρ d with
  | some ρ' => .nx ρ'
  | none => .bad
def ifR (r : Res Bool) (s t : Rho → SR) (ρ : Rho) : SR := bindS r ρ fun b => if b = true then s ρ else t ρ
def finR : SR → Res D
  | .nx _ => .ok .non
  | .rt d => .ok d
  | .ex m _ => .ex m
  | _ => .bad
def andR (r : Res Bool) (g : Rho → Res Bool) (ρ : Rho) : Res Bool := r.bind fun b => if b = true then g ρ else .ok false
def orR (r : Res Bool) (g : Rho → Res Bool) (ρ : Rho) : Res Bool := r.bind fun b => if b = true then .ok true else g ρ
def notR (r : Res Bool) : Res Bool := r.bind fun b => .ok (!b)
def andER (r : Res D) (g : Rho → Res D) (ρ : Rho) : Res D := r.bind fun d => (ans d).bind fun b => if b = true then g ρ else .ok (.bl false)
def orER (r : Res D) (g : Rho → Res D) (ρ : Rho) : Res D := r.bind fun d => (ans d).bind fun b => if b = true then .ok (.bl true) else g ρ
def notER (r : Res D) : Res D := r.bind fun d => (ans d).bind fun b => .ok (.bl (!b))
def mkTR (r : Res (List D)) : Res D := r.bind fun ds => if ds.length ≤ sizeLine then .ok (.tup ds) else .bad
def mkLR (r : Res (List D)) : Res D := r.bind fun ds => if ds.length ≤ sizeLine then .ok (.lst ds) else .bad
def slcR (r : Res D) (lo hi : Res (Option Int)) : Res D := r.bind fun d => lo.bind fun lo => hi.bind fun hi => ofO (slD d lo hi)
def psmR (r : Res D) : Res (Option Int) := r.bind intO
def forR (r : Res (List D)) (g : Tg) (s : Rho → SR) (ρ : Rho) : SR := bindS r ρ fun ds => loopD g s ds ρ
def chnR (G G' : D → D → Option D) (a b c : Res D) : Res D := a.bind fun d => b.bind fun e => (ofO (G d e)).bind fun z => (ans z).bind fun k => if k = true then c.bind fun c => ofO (G' e c) else .ok (.bl false)
theorem runB_eq {n : Nat} {g : Rho → SR} {ds : List D} {ρ : Rho} (h : startR n ds = ρ) : runB n g ds = finR (g ρ) := by
  subst h
  unfold runB finR
  cases g (startR n ds) <;> rfl
section
variable {ρ : Rho}
theorem bin_def {G f g} : bop G f g ρ = app2 G (f ρ) (g ρ) := by
  unfold bop app2
  cases f ρ <;> cases g ρ <;> rfl
theorem una_def {G f} : una G f ρ = app1 G (f ρ) := rfl
theorem cal_def {G f} : cal G f ρ = appL G (f ρ) := rfl
theorem acons_def {f g} : acons f g ρ = consR (f ρ) (g ρ) := by
  unfold acons consR
  cases f ρ <;> cases g ρ <;> rfl
theorem anil_def : anil ρ = .ok [] := rfl
theorem con_def {d} : con d ρ = .ok d := rfl
theorem callD_def {n den f} : callD n den f ρ = callR n den (f ρ) := rfl
theorem tst_def {f} : tst f ρ = tstR (f ρ) := rfl
theorem sseq_def {s t} : sseq s t ρ = seqR (s ρ) t := by
  unfold sseq seqR
  cases s ρ <;> rfl
theorem sret_def {f} : sret f ρ = retR (f ρ) ρ := rfl
theorem sasg_def {f g} : sasg f g ρ = asgR (f ρ) ρ g := rfl
theorem sif_def {c s t} : sif c s t ρ = ifR (c ρ) s t ρ := rfl
theorem sskip_def : sskip ρ = .nx ρ := rfl
theorem sraise_def {x} : sraise x ρ = .ex x ρ := rfl
theorem andQ_def {f g} : andQ f g ρ = andR (f ρ) g ρ := rfl
theorem orQ_def {f g} : orQ f g ρ = orR (f ρ) g ρ := rfl
theorem notQ_def {f} : notQ f ρ = notR (f ρ) := rfl
theorem andE_def {f g} : andE f g ρ = andER (f ρ) g ρ := rfl
theorem orE_def {f g} : orE f g ρ = orER (f ρ) g ρ := rfl
theorem notE_def {f} : notE f ρ = notER (f ρ) := rfl
theorem mkT_def {f} : mkT f ρ = mkTR (f ρ) := rfl
theorem mkL_def {f} : mkL f ρ = mkLR (f ρ) := rfl
theorem slc_def {f g h} : slc f g h ρ = slcR (f ρ) (g ρ) (h ρ) := rfl
theorem psm_def {f} : psm f ρ = psmR (f ρ) := rfl
theorem pno_def : pno ρ = .ok none := rfl
theorem sfor_def {f g s} : sfor f g s ρ = forR (f ρ) g s ρ := rfl
theorem chn_def {G G' f g h} : chn G G' f g h ρ = chnR G G' (f ρ) (g ρ) (h ρ) := rfl
theorem var_zero {d r} : var 0 (.z d :: r) = .ok d := rfl
theorem var_succ {n x r} : var (n + 1) (x :: r) = var n r := rfl
theorem app2_ok {G a b} : app2 G (.ok a) (.ok b) = ofO (G a b) := rfl
theorem app1_ok {G a} : app1 G (.ok a) = ofO (G a) := rfl
theorem appL_ok {G a} : appL G (.ok a) = ofO (G a) := rfl
theorem consR_ok {a b} : consR (.ok a) (.ok b) = .ok (a :: b) := rfl
theorem ofO_some {α} {a : α} : ofO (some a) = .ok a := rfl
theorem call0 {den} : callR 0 den (.ok []) = den [] := rfl
theorem call1 {den a} : callR 1 den (.ok [a]) = den [a] := rfl
theorem call2 {den a b} : callR 2 den (.ok [a, b]) = den [a, b] := rfl
theorem call3 {den a b c} : callR 3 den (.ok [a, b, c]) = den [a, b, c] := rfl
theorem call4 {den a b c d} : callR 4 den (.ok [a, b, c, d]) = den [a, b, c, d] := rfl
theorem call5 {den a b c d e} : callR 5 den (.ok [a, b, c, d, e]) = den [a, b, c, d, e] := rfl
theorem tstR_ok {b} : tstR (.ok (.bl b)) = .ok b := rfl
theorem seqR_nx {t} : seqR (.nx ρ) t = t ρ := rfl
theorem seqR_rt {d t} : seqR (.rt d) t = .rt d := rfl
theorem seqR_ex {n t} : seqR (.ex n ρ) t = .ex n ρ := rfl
theorem retR_ok {d} : retR (.ok d) ρ = .rt d := rfl
theorem retR_ex {n} : retR (.ex n) ρ = .ex n ρ := rfl
theorem asgR_n {d i} : asgR (.ok d) ρ (gn i) = .nx (ρ.set i (.z d)) := rfl
theorem asgR_ex {n g} : asgR (.ex n) ρ g = .ex n ρ := rfl
theorem asgR_2 {a b i j} : asgR (.ok (.tup [a, b])) ρ (gt 2 (gsc (gn i) (gsc (gn j) gsn))) = .nx ((ρ.set i (.z a)).set j (.z b)) := rfl
theorem asgR_2L {a b i j} : asgR (.ok (.lst [a, b])) ρ (gt 2 (gsc (gn i) (gsc (gn j) gsn))) = .nx ((ρ.set i (.z a)).set j (.z b)) := rfl
theorem asgR_3 {a b c i j k} : asgR (.ok (.tup [a, b, c])) ρ (gt 3 (gsc (gn i) (gsc (gn j) (gsc (gn k) gsn)))) = .nx (((ρ.set i (.z a)).set j (.z b)).set k (.z c)) := rfl
theorem ifR_t {s t} : ifR (.ok true) s t ρ = s ρ := rfl
theorem ifR_f {s t} : ifR (.ok false) s t ρ = t ρ := rfl
theorem finR_rt {d} : finR (.rt d) = .ok d := rfl
theorem finR_nx : finR (.nx ρ) = .ok .non := rfl
theorem finR_ex {n} : finR (.ex n ρ) = .ex n := rfl
theorem andR_t {g} : andR (.ok true) g ρ = g ρ := rfl
theorem andR_f {g} : andR (.ok false) g ρ = .ok false := rfl
theorem orR_t {g} : orR (.ok true) g ρ = .ok true := rfl
theorem orR_f {g} : orR (.ok false) g ρ = g ρ := rfl
theorem notR_ok {b} : notR (.ok b) = .ok (!b) := rfl
theorem andER_t {g} : andER (.ok (.bl true)) g ρ = g ρ := rfl
theorem andER_f {g} : andER (.ok (.bl false)) g ρ = .ok (.bl false) := rfl
theorem orER_t {g} : orER (.ok (.bl true)) g ρ = .ok (.bl true) := rfl
theorem orER_f {g} : orER (.ok (.bl false)) g ρ = g ρ := rfl
theorem notER_ok {b} : notER (.ok (.bl b)) = .ok (.bl (!b)) := rfl
theorem psmR_ok {i} : psmR (.ok (.int i)) = .ok (some i) := rfl
theorem slcR_ok {d lo hi} : slcR (.ok d) (.ok lo) (.ok hi) = ofO (slD d lo hi) := rfl
theorem while_t {c s n ρ'} (h : c ρ = .ok true) (h2 : s ρ = .nx ρ') : whileD c s (n + 1) ρ = whileD c s n ρ' := by
  show bindS (c ρ) ρ (fun b => if b = true then (match s ρ with | .nx ρ' => whileD c s n ρ' | .ct ρ' => whileD c s n ρ' | .bk ρ' => .nx ρ' | r => r) else .nx ρ) = _
  rw [h, h2]
  rfl
theorem while_f {c s n} (h : c ρ = .ok false) : whileD c s (n + 1) ρ = .nx ρ := by
  show bindS (c ρ) ρ (fun b => if b = true then (match s ρ with | .nx ρ' => whileD c s n ρ' | .ct ρ' => whileD c s n ρ' | .bk ρ' => .nx ρ' | r => r) else .nx ρ) = _
  rw [h]
  rfl
theorem loop_nil {g s} : loopD g s [] ρ = .nx ρ := rfl
theorem loop_cons {g s d ds ρ1 ρ'} (h : g ρ d = some ρ1) (h2 : s ρ1 = .nx ρ') : loopD g s (d :: ds) ρ = loopD g s ds ρ' := by
  show (match g ρ d with | none => SR.bad | some ρ1 => match s ρ1 with | .nx ρ' => loopD g s ds ρ' | .ct ρ' => loopD g s ds ρ' | .bk ρ' => .nx ρ' | r => r) = _
  rw [h]
  show (match s ρ1 with | .nx ρ' => loopD g s ds ρ' | .ct ρ' => loopD g s ds ρ' | .bk ρ' => .nx ρ' | r => r) = _
  rw [h2]
theorem forR_ok {ds g s} : forR (.ok ds) g s ρ = loopD g s ds ρ := rfl
theorem mkTR_ok {ds : List D} (h : ds.length ≤ 1000000) : mkTR (.ok ds) = .ok (.tup ds) := by
  show (if ds.length ≤ sizeLine then Res.ok (D.tup ds) else .bad) = _
  rw [if_pos (by rw [sizeLine_eq]; omega)]
theorem mkLR_ok {ds : List D} (h : ds.length ≤ 1000000) : mkLR (.ok ds) = .ok (.lst ds) := by
  show (if ds.length ≤ sizeLine then Res.ok (D.lst ds) else .bad) = _
  rw [if_pos (by rw [sizeLine_eq]; omega)]
theorem chn_le {i j k} : chnR leD leD (.ok (.int i)) (.ok (.int j)) (.ok (.int k)) = .ok (.bl (decide (i ≤ j) && decide (j ≤ k))) := by
  show (if decide (i ≤ j) = true then Res.ok (D.bl (decide (j ≤ k))) else .ok (.bl false)) = _
  cases decide (i ≤ j) <;> rfl
theorem chn_lt {i j k} : chnR leD ltD (.ok (.int i)) (.ok (.int j)) (.ok (.int k)) = .ok (.bl (decide (i ≤ j) && decide (j < k))) := by
  show (if decide (i ≤ j) = true then Res.ok (D.bl (decide (j < k))) else .ok (.bl false)) = _
  cases decide (i ≤ j) <;> rfl
/-! the operators on what they are for -/
theorem add_ii {i j} : addD (.int i) (.int j) = some (.int (i + j)) := rfl
theorem sub_ii {i j} : subD (.int i) (.int j) = some (.int (i - j)) := rfl
theorem neg_i {i} : negD (.int i) = some (.int (-i)) := rfl
theorem lt_ii {i j} : ltD (.int i) (.int j) = some (.bl (decide (i < j))) := rfl
theorem le_ii {i j} : leD (.int i) (.int j) = some (.bl (decide (i ≤ j))) := rfl
theorem gt_ii {i j} : gtD (.int i) (.int j) = some (.bl (decide (j < i))) := rfl
theorem ge_ii {i j} : geD (.int i) (.int j) = some (.bl (decide (j ≤ i))) := rfl
theorem eq_ii {i j} : eqD (.int i) (.int j) = some (.bl (i == j)) := by simp [eqD, eqOk, flatD, eqd]
theorem ne_ii {i j} : neD (.int i) (.int j) = some (.bl (!(i == j))) := by simp [neD, eqOk, flatD, eqd]
theorem eq_ss {i j} : eqD (.str i) (.str j) = some (.bl (i == j)) := by simp [eqD, eqOk, flatD, eqd]
theorem ne_ss {i j} : neD (.str i) (.str j) = some (.bl (!(i == j))) := by simp [neD, eqOk, flatD, eqd]
theorem eq_bb {i j} : eqD (.bl i) (.bl j) = some (.bl (i == j)) := by simp [eqD, eqOk, flatD, eqd]
theorem ne_bb {i j} : neD (.bl i) (.bl j) = some (.bl (!(i == j))) := by simp [neD, eqOk, flatD, eqd]
theorem mul_l {i j : Int} (h : -(2 ^ 64) < i ∧ i < 2 ^ 64) : mulD (.int i) (.int j) = some (.int (i * j)) := by
  show (if CMulD i j then some (D.int (i * j)) else none) = _
  rw [if_pos (.inl (.inl h))]
theorem mul_r {i j : Int} (h : -(2 ^ 64) < j ∧ j < 2 ^ 64) : mulD (.int i) (.int j) = some (.int (i * j)) := by
  show (if CMulD i j then some (D.int (i * j)) else none) = _
  rw [if_pos (.inl (.inr h))]
theorem log2_lt {n k : Nat} (h : n < 2 ^ k) (hk : 0 < k) : n.log2 < k := by
  by_cases h0 : n = 0
  · subst h0; simpa using hk
  · exact (Nat.log2_lt h0).mpr h
theorem mul_w {i j : Int} (h1 : i.natAbs < 2 ^ 100000) (h2 : j.natAbs < 2 ^ 100000) : mulD (.int i) (.int j) = some (.int (i * j)) := by
  show (if CMulD i j then some (D.int (i * j)) else none) = _
  have a := log2_lt h1 (by decide)
  have b := log2_lt h2 (by decide)
  rw [if_pos (.inr (show i.natAbs.log2 + j.natAbs.log2 < 1000000 by omega))]
theorem div_s {i j : Int} (h : 0 < j ∧ j < 2 ^ 64) : divD (.int i) (.int j) = some (.int (i / j)) := by
  show (if CDivW i j then some (D.int (i / j)) else none) = _
  have a : j.natAbs.log2 < 64 := log2_lt (by omega) (by decide)
  rw [if_pos ⟨h.1, by omega⟩]
theorem div_w {i j : Int} (h : 0 < j) (h2 : j.natAbs < 2 ^ 8000) : divD (.int i) (.int j) = some (.int (i / j)) := by
  show (if CDivW i j then some (D.int (i / j)) else none) = _
  have a := log2_lt h2 (by decide)
  rw [if_pos ⟨h, by omega⟩]
theorem mod_p {i j : Int} (h : 0 < j) : modD (.int i) (.int j) = some (.int (i % j)) := by
  show (if 0 < j then some (D.int (i % j)) else none) = _
  rw [if_pos h]
theorem ix_t {xs : List D} {i : Int} (h : 0 ≤ i ∧ i < xs.length) : ixD (.tup xs) (.int i) = some (xs.getD i.toNat .non) := by
  show atI xs i = _
  unfold atI ixN
  rw [if_pos h.1, if_pos h.2]
  show xs[i.toNat]? = _
  rw [List.getElem?_eq_getElem (by omega), List.getD_eq_getElem?_getD, List.getElem?_eq_getElem (by omega)]
  rfl
theorem ix_l {xs : List D} {i : Int} (h : 0 ≤ i ∧ i < xs.length) : ixD (.lst xs) (.int i) = some (xs.getD i.toNat .non) := by
  show atI xs i = _
  unfold atI ixN
  rw [if_pos h.1, if_pos h.2]
  show xs[i.toNat]? = _
  rw [List.getElem?_eq_getElem (by omega), List.getD_eq_getElem?_getD, List.getElem?_eq_getElem (by omega)]
  rfl
theorem ix_tm {xs : List D} {i m : Int} (h : 0 < m ∧ m ≤ xs.length) : ixD (.tup xs) (.int (i % m)) = some (xs.getD (i % m).toNat .non) := ix_t ⟨Int.emod_nonneg _ (by omega), Int.lt_of_lt_of_le (Int.emod_lt_of_pos _ h.1) h.2⟩
theorem ix_lm {xs : List D} {i m : Int} (h : 0 < m ∧ m ≤ xs.length) : ixD (.lst xs) (.int (i % m)) = some (xs.getD (i % m).toNat .non) := ix_l ⟨Int.emod_nonneg _ (by omega), Int.lt_of_lt_of_le (Int.emod_lt_of_pos _ h.1) h.2⟩
theorem ix_t0 {a : D} {r : List D} : ixD (.tup (a :: r)) (.int 0) = some a := by
  show atI (a :: r) 0 = _
  unfold atI ixN
  rw [if_pos (by decide), if_pos (by simp only [List.length_cons]; omega)]
  rfl
theorem ix_t1 {a b : D} {r : List D} : ixD (.tup (a :: b :: r)) (.int 1) = some b := by
  show atI (a :: b :: r) 1 = _
  unfold atI ixN
  rw [if_pos (by decide), if_pos (by simp only [List.length_cons]; omega)]
  rfl
theorem ix_t2 {a b c : D} {r : List D} : ixD (.tup (a :: b :: c :: r)) (.int 2) = some c := by
  show atI (a :: b :: c :: r) 2 = _
  unfold atI ixN
  rw [if_pos (by decide), if_pos (by simp only [List.length_cons]; omega)]
  rfl
theorem ix_t3 {a b c d : D} {r : List D} : ixD (.tup (a :: b :: c :: d :: r)) (.int 3) = some d := by
  show atI (a :: b :: c :: d :: r) 3 = _
  unfold atI ixN
  rw [if_pos (by decide), if_pos (by simp only [List.length_cons]; omega)]
  rfl
theorem ix_t4 {a b c d e : D} {r : List D} : ixD (.tup (a :: b :: c :: d :: e :: r)) (.int 4) = some e := by
  show atI (a :: b :: c :: d :: e :: r) 4 = _
  unfold atI ixN
  rw [if_pos (by decide), if_pos (by simp only [List.length_cons]; omega)]
  rfl
theorem ix_t5 {a b c d e f : D} {r : List D} : ixD (.tup (a :: b :: c :: d :: e :: f :: r)) (.int 5) = some f := by
  show atI (a :: b :: c :: d :: e :: f :: r) 5 = _
  unfold atI ixN
  rw [if_pos (by decide), if_pos (by simp only [List.length_cons]; omega)]
  rfl
theorem ix_t6 {a b c d e f g : D} {r : List D} : ixD (.tup (a :: b :: c :: d :: e :: f :: g :: r)) (.int 6) = some g := by
  show atI (a :: b :: c :: d :: e :: f :: g :: r) 6 = _
  unfold atI ixN
  rw [if_pos (by decide), if_pos (by simp only [List.length_cons]; omega)]
  rfl
theorem ix_t7 {a b c d e f g h : D} {r : List D} : ixD (.tup (a :: b :: c :: d :: e :: f :: g :: h :: r)) (.int 7) = some h := by
  show atI (a :: b :: c :: d :: e :: f :: g :: h :: r) 7 = _
  unfold atI ixN
  rw [if_pos (by decide), if_pos (by simp only [List.length_cons]; omega)]
  rfl
theorem ix_l0 {a : D} {r : List D} : ixD (.lst (a :: r)) (.int 0) = some a := by
  show atI (a :: r) 0 = _
  unfold atI ixN
  rw [if_pos (by decide), if_pos (by simp only [List.length_cons]; omega)]
  rfl
theorem ix_l1 {a b : D} {r : List D} : ixD (.lst (a :: b :: r)) (.int 1) = some b := by
  show atI (a :: b :: r) 1 = _
  unfold atI ixN
  rw [if_pos (by decide), if_pos (by simp only [List.length_cons]; omega)]
  rfl
theorem ix_l2 {a b c : D} {r : List D} : ixD (.lst (a :: b :: c :: r)) (.int 2) = some c := by
  show atI (a :: b :: c :: r) 2 = _
  unfold atI ixN
  rw [if_pos (by decide), if_pos (by simp only [List.length_cons]; omega)]
  rfl
theorem ix_l3 {a b c d : D} {r : List D} : ixD (.lst (a :: b :: c :: d :: r)) (.int 3) = some d := by
  show atI (a :: b :: c :: d :: r) 3 = _
  unfold atI ixN
  rw [if_pos (by decide), if_pos (by simp only [List.length_cons]; omega)]
  rfl
theorem ix_l4 {a b c d e : D} {r : List D} : ixD (.lst (a :: b :: c :: d :: e :: r)) (.int 4) = some e := by
  show atI (a :: b :: c :: d :: e :: r) 4 = _
  unfold atI ixN
  rw [if_pos (by decide), if_pos (by simp only [List.length_cons]; omega)]
  rfl
theorem ix_l5 {a b c d e f : D} {r : List D} : ixD (.lst (a :: b :: c :: d :: e :: f :: r)) (.int 5) = some f := by
  show atI (a :: b :: c :: d :: e :: f :: r) 5 = _
  unfold atI ixN
  rw [if_pos (by decide), if_pos (by simp only [List.length_cons]; omega)]
  rfl
theorem ix_l6 {a b c d e f g : D} {r : List D} : ixD (.lst (a :: b :: c :: d :: e :: f :: g :: r)) (.int 6) = some g := by
  show atI (a :: b :: c :: d :: e :: f :: g :: r) 6 = _
  unfold atI ixN
  rw [if_pos (by decide), if_pos (by simp only [List.length_cons]; omega)]
  rfl
theorem ix_l7 {a b c d e f g h : D} {r : List D} : ixD (.lst (a :: b :: c :: d :: e :: f :: g :: h :: r)) (.int 7) = some h := by
  show atI (a :: b :: c :: d :: e :: f :: g :: h :: r) 7 = _
  unfold atI ixN
  rw [if_pos (by decide), if_pos (by simp only [List.length_cons]; omega)]
  rfl
theorem len_t {xs : List D} : lenD [.tup xs] = some (.int xs.length) := rfl
theorem len_l {xs : List D} : lenD [.lst xs] = some (.int xs.length) := rfl
theorem len_a {xs : List Int} : lenD [.arr xs] = some (.int xs.length) := rfl
theorem abs_i {i : Int} : absD [.int i] = some (.int (if i < 0 then -i else i)) := rfl
theorem max_ii {i j : Int} : maxD [.int i, .int j] = some (.int (if j > i then j else i)) := rfl
theorem min_ii {i j : Int} : minD [.int i, .int j] = some (.int (if j < i then j else i)) := rfl
theorem int_i {i : Int} : intD [.int i] = some (.int i) := rfl
theorem int_b {b : Bool} : intD [.bl b] = some (.int (if b then 1 else 0)) := rfl
theorem int_t : intD [.bl true] = some (.int 1) := rfl
theorem int_f : intD [.bl false] = some (.int 0) := rfl
theorem str_i {i : Int} (h : i.natAbs < 2 ^ 1900) : strD [.int i] = some (.str (toString i)) := by
  show (if i.natAbs.log2 < 1920 then some (D.str (toString i)) else none) = _
  have a := log2_lt h (by decide)
  rw [if_pos (by omega)]
theorem len_s {x : Str} (h : x.length ≤ 1000000) : lenD [.str x] = some (.int x.length) := by
  show (if x.length ≤ sizeLine then some (D.int x.length) else none) = _
  rw [if_pos (by rw [sizeLine_eq]; omega)]
theorem isi_b {i n b} (h : kitB "bool" n = some b) : isiD [.bl i, .ty n] = some (.bl b) := by simp [isiD, tyD, h]
end
end DN
namespace DN
open PySem PySem.Spec PyProof.Rows L2
instance : Decidable (CPow i j) := by unfold CPow; infer_instance
end DN
namespace DN
open PySem PySem.Spec PyProof.Rows L2
open LamX (Tabs ExtN)

/-! ### methods of texts -/
section
variable {X : Cx} {T : List (Addr × Str)} {W : WX}
end
/-! evaluating -/
end DN
namespace DN
open PySem PySem.Spec PyProof.Rows L2
open LamX (Tabs ExtN CodeO GivesTo tLam LamS TabB lamCx lamEnv)

/-! ### list.count, flat items -/
section
variable {X : Cx}
def rCountF (K : PySem.W.Frag) : V → List V → Hp → VK → Prop := fun x xs H Q => ∃ (a : Addr) (ys : List V) (y : V), x = V.ref a ∧ xs = [y] ∧ SqL K H a ys ∧ flatV y = true ∧ ys.all flatV = true ∧ Q (.int ((ys.countP fun z => eqV z y : Nat) : Int)) H
theorem countU {y : V} : ∀ {ys : List V} {us : List Value}, Vals ys us → ys.all flatV = true → us.countP (eqU y) = ys.countP fun z => eqV z y
  | _, _, .nil, _ => rfl
  | z :: ys, u :: us, .cons r t, f => by
    rw [List.all_cons, Bool.and_eq_true] at f
    rw [List.countP_cons, List.countP_cons, countU t f.2, eqU_of r f.1]
theorem mt_countF : MtR X "list.count" (rCountF X.K) := by
  intro pins s σ H x xs v us Q I rx rxs h
  obtain ⟨a, ys, y, rfl, rfl, hs, fy, fys, q⟩ := h
  cases rx
  obtain ⟨u, rfl, ru⟩ := rxs.one
  obtain ⟨its, rv, ⟨⟨cls, dd, data, sl⟩, n, ho, hc, hdn, hd⟩, hlen⟩ := I.list hs
  simp only at hc hd
  subst hc hd
  refine call_meets PySem.F.slot_list_count ⟨_, ho, rfl⟩ PySem.F.entry_list_count (PySem.F.args_list_count_2 _ _)
    (SeqAt.list_countAt a its.toArray n dd sl u (eqU y)) ⟨ho, fun u' hu' => mem_eqAt ru fy rv fys u' (by simpa using hu'), ?_⟩
  have ec : its.toArray.toList.countP (eqU y) = ys.countP fun z => eqV z y := countU rv fys
  rw [ec]
  exact ⟨.int _, H, I.kept fun _ _ z => z, ⟨_, rfl⟩, q⟩
end

/-! ### told: what an own error is told as -/
def kindIx (n : Str) : Option Int :=
  if n = "TooGreat" then some 0 else if n = "NoText" then some 1 else if n = "NoDeed" then some 2 else if n = "NoKey" then some 3 else if n = "NoRoom" then some 4 else none
def toldR : Res D → Res D
  | .ok d => .ok (.tup [.str "told", d])
  | .ex n => (match kindIx n with
    | some k => .ok (.tup [.str "refused", .int k])
    | none => .bad)
  | .bad => .bad
def toldD (f : Rho → Res D) : Rho → Res D := fun ρ => toldR (f ρ)
def five : List Str := ["TooGreat", "NoText", "NoDeed", "NoKey", "NoRoom"]
/-- what is known of the five classes -/
structure ExK (K : PySem.W.Frag) (n : Str) : Prop where
  c : ExcC K (He.ga K n)
  m : PySem.W.exmOne K (.ref (He.ga K n)) (.ref (He.ga K "PileError")) = some true
  v : PySem.W.kitOne K (.ref (He.ga K n)) (.type "ValueError") = some true
  k : ∀ m ∈ five, PySem.W.kitOne K (.ref (He.ga K n)) (.ref (He.ga K m)) = some (decide (n = m))
def exKB (K : PySem.W.Frag) (n : Str) : Bool :=
  He.eqO (PySem.W.findIn K (.ref (He.ga K n)) "__getattribute__") (some (some (.builtin "BaseException.__getattribute__"))) &&
  (He.eqO (PySem.W.findIn K (.ref (He.ga K n)) "__getattr__") (some none) &&
  (decide (PySem.W.subIn K (.ref (He.ga K n)) (.type "BaseException") = some true) &&
  (PySem.W.hasDictIn K (He.ga K n) &&
  (He.eqO (PySem.W.findIn K (.ref (He.ga K n)) "__class__") (some (some (.builtin "object.__class__"))) &&
  (He.eqO (PySem.W.specialIn K (.builtin "object.__class__") "__get__") (some (some (.builtin "getset_descriptor.__get__"))) &&
  (decide (PySem.W.takesIn K (.builtin "object.__class__") = some true) &&
  (decide (PySem.W.mroIn K (He.ga K n) (.type "object") = some true) &&
  (decide (PySem.W.exmOne K (.ref (He.ga K n)) (.ref (He.ga K "PileError")) = some true) &&
  (decide (PySem.W.kitOne K (.ref (He.ga K n)) (.type "ValueError") = some true) &&
  five.all fun m => decide (PySem.W.kitOne K (.ref (He.ga K n)) (.ref (He.ga K m)) = some (decide (n = m))))))))))))
def toldB (K : PySem.W.Frag) : Bool := five.all fun n => exKB K n
theorem exKB_ok {K : PySem.W.Frag} {n : Str} (h : exKB K n = true) : ExK K n := by
  unfold exKB at h
  simp only [Bool.and_eq_true] at h
  obtain ⟨h1, h2, h3, h4, h5, h6, h7, h8, h9, h10, h11⟩ := h
  exact ⟨⟨He.eqO_ok h1, He.eqO_ok h2, of_decide_eq_true h3, h4, He.eqO_ok h5, He.eqO_ok h6, of_decide_eq_true h7, of_decide_eq_true h8⟩, of_decide_eq_true h9, of_decide_eq_true h10, fun m hm => of_decide_eq_true (List.all_eq_true.mp h11 m hm)⟩
theorem toldB_ok {K : PySem.W.Frag} (h : toldB K = true) : ∀ n ∈ five, ExK K n := fun n hn => exKB_ok (List.all_eq_true.mp h n hn)
theorem kindIx_mem {n : Str} {k : Int} (h : kindIx n = some k) : n ∈ five := by
  unfold kindIx at h
  unfold five
  split at h
  · rename_i e; subst e; simp
  · split at h
    · rename_i e; subst e; simp
    · split at h
      · rename_i e; subst e; simp
      · split at h
        · rename_i e; subst e; simp
        · split at h
          · rename_i e; subst e; simp
          · cases h
/-- what told's module must have -/
structure ToldC (K : PySem.W.Frag) (mg : Str → Option Value) : Prop where
  ex : ∀ n ∈ five, ExK K n
  g : ∀ n ∈ five, mg n = some (.ref (He.ga K n))
  p : mg "PileError" = some (.ref (He.ga K "PileError"))
  i : mg "isinstance" = none
  v : mg "ValueError" = none
/-- told's names -/
structure ToldS (sg : Scope) : Prop where
  l : ∀ n ∈ (["deed", "found", "e", "kinds"] : List Str), sg.names.lookup n = some .local
  g : ∀ n ∈ five, sg.names.lookup n = some .globalImplicit
  gp : sg.names.lookup ("PileError" : Str) = some .globalImplicit
  gi : sg.names.lookup ("isinstance" : Str) = some .globalImplicit
  gv : sg.names.lookup ("ValueError" : Str) = some .globalImplicit
theorem bt_ValueError : bootBuiltins "ValueError" = some (.type "ValueError") := by decide +kernel
def TTd (K : PySem.W.Frag) (T : List (Addr × Str)) : (XK → Hp → VK → Prop) → Hp → VK → Prop := fun tl H Q =>
  ∃ F r, Fz F H ∧ (∀ E H' F' Q', Nx T F H F' H' → aft (Rp K) K T (WofE E) [] F' H' Q' r → tl E H' Q') ∧ aft (Rp K) K T (fun _ _ _ _ => False) [] F H Q (toldR r)
theorem takes_len {X : Cx} {W : WX} (t : Takes X W) : Takes X (fun c d σ H => σ.length = X.N.length → W c d σ H) := fun u s' ⟨a, B, sI, pins, σ, H, cls, d, e, I, nb, up, sky, na, os, ag, w⟩ =>
  t u s' ⟨a, B, sI, pins, σ, H, cls, d, e, I, nb, up, sky, na, os, ag, w I.len⟩

section
variable {X : Cx} {T : List (Addr × Str)}
/-- the suite's reading, of an error of the class at D -/
def isR (K : PySem.W.Frag) (D a : Addr) (n : Str) : TE := tCB (rIsE K D a) (tCons (tVar 2) (tCons (tC (.ref (He.ga K n))) tNil))
def isV (K : PySem.W.Frag) (D a : Addr) : TE := tCB (rIsE K D a) (tCons (tVar 2) (tCons (tC (.ty "ValueError")) tNil))
def RS (K : PySem.W.Frag) (a D : Addr) : TS :=
  tSeq (tAsg (tLst (tCons (isR K D a "TooGreat") (tCons (isR K D a "NoText") (tCons (isR K D a "NoDeed") (tCons (isR K D a "NoKey") tNil))))) (gName 3))
  (tSeq (tDrop (tBM K "list" rAppend (tVar 3) (tCons (isR K D a "NoRoom") tNil)))
  (tSeq (tAsg (tTup (tCons (tC (.str "refused")) (tCons (tUn (rU fun i => .int (-i)) (tC (.int 1))) tNil))) (gName 1))
  (tIfS (tAnd (tB (isV K D a)) (tB (tEqI (tBM K "list" (rCountF K) (tVar 3) (tCons (tC (.bl true)) tNil)) (tC (.int 1))))) (tAsg (tTup (tCons (tC (.str "refused")) (tCons (tBM K "list" (rIndex K) (tVar 3) (tCons (tC (.bl true)) tNil)) tNil))) (gName 1)) tNext)))
theorem isR_run {K : PySem.W.Frag} {n m : Str} {a : Addr} {σ : L2.St} {H : Hp} {Q : VK} (E : ExK K n) (hm : m ∈ five) (h2 : σ[2]? = some (some (.ref a))) (hq : Q (.bl (decide (n = m))) H) : isR K (He.ga K n) a m σ H Q :=
  ⟨.ref a, h2, .ref (He.ga K m), .ref (He.ga K m), _, rfl, fun u r => r, E.k m hm, hq⟩
theorem isV_run {K : PySem.W.Frag} {n : Str} {a : Addr} {σ : L2.St} {H : Hp} {Q : VK} (E : ExK K n) (h2 : σ[2]? = some (some (.ref a))) (hq : Q (.bl true) H) : isV K (He.ga K n) a σ H Q :=
  ⟨.ref a, h2, .ty "ValueError", .type "ValueError", _, rfl, fun u r => r, E.v, hq⟩
theorem suite_run {K : PySem.W.Frag} {n : Str} {a : Addr} {σ : L2.St} {F H : Hp} {D : Ends} {b0 b1 b2 b3 b4 : Bool} {j : Nat} (E : ExK K n) (z : Fz F H) (hl : σ.length = 4) (h2 : σ[2]? = some (some (.ref a)))
    (e0 : decide (n = "TooGreat") = b0) (e1 : decide (n = "NoText") = b1) (e2 : decide (n = "NoDeed") = b2) (e3 : decide (n = "NoKey") = b3) (e4 : decide (n = "NoRoom") = b4)
    (hc : ([V.bl b0, .bl b1, .bl b2, .bl b3, .bl b4].countP fun z => eqV z (.bl true)) = 1) (hj : [V.bl b0, .bl b1, .bl b2, .bl b3, .bl b4][j]? = some (.bl true)) (hno : ∀ (m : Nat) (z' : V), m < j → [V.bl b0, .bl b1, .bl b2, .bl b3, .bl b4][m]? = some z' → eqV z' (.bl true) = false)
    (hk : ∀ σ' p F' H', Nx T F H F' H' → F' p = some (.tup [.str "refused", .int (j : Nat)]) → σ'.length = 4 → σ'[1]? = some (some (.ref p)) → D.nx σ' H') : RS K a (He.ga K n) D σ H := by
  have sl := sizeLine_eq
  refine isR_run E (by unfold five; simp) h2 (isR_run E (by unfold five; simp) h2 (isR_run E (by unfold five; simp) h2 (isR_run E (by unfold five; simp) h2 ⟨by simp; omega, fun p1 hp1 => ?_⟩)))
  rw [e0, e1, e2, e3]
  have g3 : (σ.set 3 (some (V.ref p1)))[3]? = some (some (.ref p1)) := by rw [List.getElem?_set]; simp [hl]
  have g2 : (σ.set 3 (some (V.ref p1)))[2]? = some (some (.ref a)) := by rw [List.getElem?_set]; simpa using h2
  refine ⟨.ref p1, g3, .inl ⟨rfl, _, .inl (.inl upd_same)⟩, isR_run E (by unfold five; simp) g2 ⟨p1, _, _, rfl, rfl, upd_same, by simp; omega, ?_⟩⟩
  rw [e4, upd_upd]
  have n1 : Nx T F H F (upd H p1 (.lst [V.bl b0, .bl b1, .bl b2, .bl b3, .bl b4])) := Nx.lay z hp1
  refine ⟨1, rfl, by simp; omega, fun p2 hp2 => ?_⟩
  have np : p1 ≠ p2 := fun e => by rw [← e, upd_same] at hp2; cases hp2
  have n2 := n1.trans (Nx.lay (T := T) (o := .tup [V.str "refused", V.int (-1)]) n1.z hp2)
  have k1 : (upd (upd H p1 (.lst [V.bl b0, .bl b1, .bl b2, .bl b3, .bl b4])) p2 (.tup [V.str "refused", V.int (-1)])) p1 = some (.lst [V.bl b0, .bl b1, .bl b2, .bl b3, .bl b4]) := by rw [upd_ne np, upd_same]
  have f3 : ((σ.set 3 (some (V.ref p1))).set 1 (some (V.ref p2)))[3]? = some (some (.ref p1)) := by rw [List.getElem?_set]; simpa using g3
  have f2 : ((σ.set 3 (some (V.ref p1))).set 1 (some (V.ref p2)))[2]? = some (some (.ref a)) := by rw [List.getElem?_set]; simpa using g2
  refine isV_run E f2 ⟨true, rfl, ?_⟩
  refine ⟨.ref p1, f3, .inl ⟨rfl, _, .inl (.inl k1)⟩, p1, _, .bl true, rfl, rfl, .inl (.inl k1), rfl, rfl, ?_⟩
  rw [hc]
  refine ⟨_, _, rfl, rfl, true, rfl, ?_⟩
  refine ⟨.ref p1, f3, .inl ⟨rfl, _, .inl (.inl k1)⟩, p1, _, .bl true, j, .bl true, rfl, rfl, .inl (.inl k1), rfl, rfl, hj, rfl, hno, ⟨by simp; omega, fun p3 hp3 => ?_⟩⟩
  have n3 := n2.trans (Nx.push (T := T) (o := .tup [V.str "refused", V.int (j : Nat)]) n2.z hp3 fun ps z => by cases z)
  refine hk _ p3 _ _ n3 upd_same (by simp [hl]) ?_
  rw [List.getElem?_set]
  simp [hl]
theorem told_gives {sg : Scope} {x q : Str} {g : Addr} {cdg : Value} {q1 q2 q3 q4 q5 q6 q7 q8 q9 q10 q11 q12 q13 q14 q15 q16 q17 q18 q19 q20 q21 q22 q23 q24 q25 q26 q27 q28 q29 q30 q31 q32 q33 q34 q35 q36 q37 q38 q39 q40 q41 q42 q43 q44 q45 q46 q47 q48 q49 q50 q51 q52 q53 q54 q55 q56 q57 q58 q59 q60 q61 q62 q63 q64 : Pos} (S : ToldS sg) (C : ToldC X.K X.mg) (h1 : (q26.endLine == q27.line) = true) (h2 : (q40.endLine == q41.line) = true) (h3 : (q42.endLine == q43.line) = true) :
    GivesTo X ["deed", "found", "e", "kinds"] x sg g cdg [.Try [(.Assign [(.Name "found" q1)] (.Tuple [(.Constant (.str "told") 0 q2), .Call (.Name "deed" q3) [] [] q4] 0 q5) q6)] [.ExceptHandler (some (.Name "PileError" q60)) (some "e") [(.Assign [(.Name "kinds" q7)] (.List [(.Call (.Name "isinstance" q8) [.Name "e" q9, .Name "TooGreat" q10] [] q11), (.Call (.Name "isinstance" q12) [.Name "e" q13, .Name "NoText" q14] [] q15), (.Call (.Name "isinstance" q16) [.Name "e" q17, .Name "NoDeed" q18] [] q19), (.Call (.Name "isinstance" q20) [.Name "e" q21, .Name "NoKey" q22] [] q23)] q24) q25), (.Expr (.Call (.Attribute (.Name "kinds" q28) "append" q26) [(.Call (.Name "isinstance" q29) [.Name "e" q30, .Name "NoRoom" q31] [] q32)] [] q27) q33), (.Assign [(.Name "found" q34)] (.Tuple [(.Constant (.str "refused") 0 q35), .UnaryOp .USub (.Constant (.int 1) 0 q36) q37] 0 q38) q39), (.If (.BoolOp .And [(.Call (.Name "isinstance" q44) [.Name "e" q45, .Name "ValueError" q46] [] q47), .Compare (.Call (.Attribute (.Name "kinds" q48) "count" q40) [.Constant (.bool true) 0 q49] [] q41) [.Eq] [.Constant (.int 1) 0 q50] q51] q52) [.Assign [(.Name "found" q53)] (.Tuple [(.Constant (.str "refused") 0 q54), .Call (.Attribute (.Name "kinds" q55) "index" q42) [.Constant (.bool true) 0 q56] [] q43] 0 q57) q58] [] q59)] q61] [] [] q62, .Return (some (.Name "found" q63)) q64] "deed" q (TTd X.K T) := by
  intro f c' s H Q tl act hc h
  obtain ⟨F, r, hz, htl, hq⟩ := h
  have vis : ∀ n ∈ (["deed", "found", "e", "kinds"] : List Str), Vis sg n := fun n hn => .inl (S.l n hn)
  have isE : ∀ (n : Str) (a : Addr) (oe : Obj) (D : Addr) (pn : List (Addr × Obj)) (p1 p2 p3 p4 : Pos), n ∈ five → ExcC X.K D → Zc (.ref D) none oe → (∃ vs, oe.data = .fields vs) → (n == ("__debug__" : Str)) = false →
      PE ((cxOf C8.CX0 X.prog X.w X.K X.mg X.base ["deed", "found", "e", "kinds"] x sg g cdg X.A X.stack s H C8.E0).nox.suite a ((a, oe) :: pn)) (.Call (.Name "isinstance" p1) [.Name "e" p2, .Name n p3] [] p4) (tCB (rIsE X.K D a) (tCons (tVar 2) (tCons (tC (.ref (He.ga X.K n))) tNil))) := fun n a oe D pn p1 p2 p3 p4 hn CC zc fl hdb =>
    pe_callB (call_isE CC zc fl) S.gi C.i bt_isinstance (pa_cons (pe_var (i := 2) rfl (vis "e" (by simp))) (pa_cons (pe_glob (v := .ref (He.ga X.K n)) (S.g n hn) (C.g n hn) rfl hdb) pa_nil))
  have isVE : ∀ (a : Addr) (oe : Obj) (D : Addr) (pn : List (Addr × Obj)) (p1 p2 p3 p4 : Pos), ExcC X.K D → Zc (.ref D) none oe → (∃ vs, oe.data = .fields vs) →
      PE ((cxOf C8.CX0 X.prog X.w X.K X.mg X.base ["deed", "found", "e", "kinds"] x sg g cdg X.A X.stack s H C8.E0).nox.suite a ((a, oe) :: pn)) (.Call (.Name "isinstance" p1) [.Name "e" p2, .Name "ValueError" p3] [] p4) (isV X.K D a) := fun a oe D pn p1 p2 p3 p4 CC zc fl =>
    pe_callB (call_isE CC zc fl) S.gi C.i bt_isinstance (pa_cons (pe_var (i := 2) rfl (vis "e" (by simp))) (pa_cons (pe_bltn (v := .ty "ValueError") S.gv C.v bt_ValueError rfl) pa_nil))
  have nd : (["deed", "found", "e", "kinds"] : List Str).Nodup := by decide +kernel
  have lf : sg.names.lookup ("found" : Str) = some .local := S.l "found" (by simp)
  have lk : sg.names.lookup ("kinds" : Str) = some .local := S.l "kinds" (by simp)
  have hs : ∀ (a : Addr) (oe : Obj) (D : Addr) (pn : List (Addr × Obj)), ExcC X.K D → Zc (.ref D) none oe → (∃ vs, oe.data = .fields vs) →
      PSs ((cxOf C8.CX0 X.prog X.w X.K X.mg X.base ["deed", "found", "e", "kinds"] x sg g cdg X.A X.stack s H C8.E0).nox.suite a ((a, oe) :: pn)) [(.Assign [(.Name "kinds" q7)] (.List [(.Call (.Name "isinstance" q8) [.Name "e" q9, .Name "TooGreat" q10] [] q11), (.Call (.Name "isinstance" q12) [.Name "e" q13, .Name "NoText" q14] [] q15), (.Call (.Name "isinstance" q16) [.Name "e" q17, .Name "NoDeed" q18] [] q19), (.Call (.Name "isinstance" q20) [.Name "e" q21, .Name "NoKey" q22] [] q23)] q24) q25), (.Expr (.Call (.Attribute (.Name "kinds" q28) "append" q26) [(.Call (.Name "isinstance" q29) [.Name "e" q30, .Name "NoRoom" q31] [] q32)] [] q27) q33), (.Assign [(.Name "found" q34)] (.Tuple [(.Constant (.str "refused") 0 q35), .UnaryOp .USub (.Constant (.int 1) 0 q36) q37] 0 q38) q39), (.If (.BoolOp .And [(.Call (.Name "isinstance" q44) [.Name "e" q45, .Name "ValueError" q46] [] q47), .Compare (.Call (.Attribute (.Name "kinds" q48) "count" q40) [.Constant (.bool true) 0 q49] [] q41) [.Eq] [.Constant (.int 1) 0 q50] q51] q52) [.Assign [(.Name "found" q53)] (.Tuple [(.Constant (.str "refused") 0 q54), .Call (.Attribute (.Name "kinds" q55) "index" q42) [.Constant (.bool true) 0 q56] [] q43] 0 q57) q58] [] q59)] (RS X.K a D) := fun a oe D pn CC zc fl =>
    pss_cons (ps_asg (pe_lst (pa_cons (isE "TooGreat" a oe D pn _ _ _ _ (by unfold five; simp) CC zc fl (by decide)) (pa_cons (isE "NoText" a oe D pn _ _ _ _ (by unfold five; simp) CC zc fl (by decide)) (pa_cons (isE "NoDeed" a oe D pn _ _ _ _ (by unfold five; simp) CC zc fl (by decide)) (pa_cons (isE "NoKey" a oe D pn _ _ _ _ (by unfold five; simp) CC zc fl (by decide)) pa_nil))))) (pg_name (i := 3) nd rfl (.inl lk) (.inr lk)))
    (pss_cons (ps_expr (pe_bm PySem.F.plainAttrs_list PySem.F.slot_list_append PySem.F.type_list_append mt_append (pe_var (i := 3) rfl (.inl lk)) (pa_cons (isE "NoRoom" a oe D pn _ _ _ _ (by unfold five; simp) CC zc fl (by decide)) pa_nil) rfl rfl h1))
    (pss_cons (ps_asg (pe_tup (pa_cons pe_str (pa_cons (pe_un un_neg pe_int) pa_nil))) (pg_name (i := 1) nd rfl (.inl lf) (.inr lf)))
    (pss_one (ps_if (PW.pt (pw_and (pt_val (isVE a oe D pn _ _ _ _ CC zc fl)) (pw_and1 (pt_cmp (pc_eqI (pe_bm PySem.F.plainAttrs_list PySem.F.slot_list_count PySem.F.type_list_count mt_countF (pe_var (i := 3) rfl (.inl lk)) (pa_cons pe_bl pa_nil) rfl rfl h2) pe_int)))))
      (pss_one (ps_asg (pe_tup (pa_cons pe_str (pa_cons (pe_bm PySem.F.plainAttrs_list PySem.F.slot_list_index PySem.F.type_list_index mt_index (pe_var (i := 3) rfl (.inl lk)) (pa_cons pe_bl pa_nil) rfl rfl h3) pa_nil))) (pg_name (i := 1) nd rfl (.inl lf) (.inr lf)))) pss_nil))))
  refine ⟨_, pss_cons (ps_try_as (X := (cxOf C8.CX0 X.prog X.w X.K X.mg X.base ["deed", "found", "e", "kinds"] x sg g cdg X.A X.stack s H C8.E0).nox) (c := .ref (He.ga X.K "PileError")) (i := 2)
      (tb := fun W D σ H => ∃ Ech : XK, (∀ cls d σ' H', Ech cls d H' → σ'.length = 4 → W cls d σ' H') ∧ σ[0]? = some (some (.ref f)) ∧ H c' = some (CodeO c' q) ∧ tl Ech H fun v H1 => ([V.str "told", v] : List V).length ≤ sizeLine ∧ ∀ p, H1 p = none → D.nx (σ.set 1 (some (.ref p))) (upd H1 p (.tup [.str "told", v])))
      (ts := fun a cls d D σ H => ∃ C, cls = .ref C ∧ d = none ∧ ExcC X.K C ∧ RS X.K a C D σ H)
      (Wout := fun _ _ _ _ => False) rfl rfl nd rfl (S.l "e" (by simp)) ⟨S.gp, by decide, .inl C.p⟩ LamX.takes0 (fun W pn xe tk _ => ?_) (fun a oe cls d pn zc fl => ?_)) (pss_one (ps_ret (pe_var (i := 1) rfl (.inl lf)))), ?_⟩
  · refine ⟨fun pins s' σ H' D I h' => ?_⟩
    obtain ⟨Ech, hW, e1, e2, e3⟩ := h'
    have hp := act (fun c d σ H => σ.length = 4 → W c d σ H) pn xe Ech q3 q4 (takes_len tk) hW
    exact (pss_one (ps_asg (pe_tup (pa_cons pe_str (pa_cons hp pa_nil))) (pg_name (i := 1) nd rfl (.inl lf) (.inr lf)))).run pins s' σ H' D I ⟨e1, e2, e3⟩
  · refine ⟨fun pins s' σ H' D I h' => ?_⟩
    obtain ⟨CC, rfl, rfl, ce, h'⟩ := h'
    exact (hs a oe CC pn ce zc fl).run pins s' σ H' D I h'
  · have sl := sizeLine_eq
    refine ⟨fun cls d H' => ∃ n k F', cls = .ref (He.ga X.K n) ∧ d = none ∧ kindIx n = some k ∧ Nx T F H F' H' ∧ ∀ v F'' H'', Nx T F H F'' H'' → Rp X.K F'' v (.tup [.str "refused", .int k]) → Q v H'', ?_, rfl, hc, ?_⟩
    · intro cls d σ' H' ⟨n, k, F', ec, ed, ek, nx, hQ⟩ hl
      subst ec ed
      have ek' := C.ex n (kindIx_mem ek)
      refine ⟨true, ek'.m, fun _ a ha => ⟨_, rfl, rfl, ek'.c, ?_⟩, fun z => by cases z⟩
      have fin : ∀ (j : Nat) (σ2 : L2.St) (p : Addr) (F2 H2 : Hp), k = (j : Int) → Nx T F' H' F2 H2 → F2 p = some (.tup [.str "refused", .int (j : Nat)]) → σ2.length = 4 → σ2[1]? = some (some (.ref p)) → tRet (tVar 1) { nx := fun _ H' => Q .non H', rt := Q } (σ2.set 2 none) H2 := fun j σ2 p F2 H2 e n2 fp l2 h1 => by
        refine ⟨.ref p, ?_, hQ _ F2 H2 (nx.trans n2) ?_⟩
        · rw [List.getElem?_set]; simpa using h1
        · rw [e]
          exact .tup (.inl (.inl fp)) (.cons (.str _) (.cons (.int _) .nil))
      have l2 : (σ'.set 2 (some (V.ref a))).length = 4 := by rw [List.length_set]; exact hl
      have g2 : (σ'.set 2 (some (V.ref a)))[2]? = some (some (.ref a)) := by rw [List.getElem?_set]; simp [hl]
      have hno : ∀ (l : List V) (j : Nat), (l.take j).all (fun z => !eqV z (.bl true)) = true → ∀ (m : Nat) (z' : V), m < j → l[m]? = some z' → eqV z' (.bl true) = false := fun l j ha m z' hm he => by
        have := List.all_eq_true.mp ha z' (List.mem_of_getElem? (i := m) (by rw [List.getElem?_take, if_pos hm]; exact he))
        simpa using this
      unfold kindIx at ek
      split at ek
      · rename_i e; subst e; cases ek
        exact suite_run (T := T) (j := 0) ek' nx.z l2 g2 (b0 := true) (b1 := false) (b2 := false) (b3 := false) (b4 := false) (by decide +kernel) (by decide +kernel) (by decide +kernel) (by decide +kernel) (by decide +kernel) rfl rfl (hno _ _ rfl) fun σ2 p F2 H2 => fin 0 σ2 p F2 H2 rfl
      · split at ek
        · rename_i e; subst e; cases ek
          exact suite_run (T := T) (j := 1) ek' nx.z l2 g2 (b0 := false) (b1 := true) (b2 := false) (b3 := false) (b4 := false) (by decide +kernel) (by decide +kernel) (by decide +kernel) (by decide +kernel) (by decide +kernel) rfl rfl (hno _ _ rfl) fun σ2 p F2 H2 => fin 1 σ2 p F2 H2 rfl
        · split at ek
          · rename_i e; subst e; cases ek
            exact suite_run (T := T) (j := 2) ek' nx.z l2 g2 (b0 := false) (b1 := false) (b2 := true) (b3 := false) (b4 := false) (by decide +kernel) (by decide +kernel) (by decide +kernel) (by decide +kernel) (by decide +kernel) rfl rfl (hno _ _ rfl) fun σ2 p F2 H2 => fin 2 σ2 p F2 H2 rfl
          · split at ek
            · rename_i e; subst e; cases ek
              exact suite_run (T := T) (j := 3) ek' nx.z l2 g2 (b0 := false) (b1 := false) (b2 := false) (b3 := true) (b4 := false) (by decide +kernel) (by decide +kernel) (by decide +kernel) (by decide +kernel) (by decide +kernel) rfl rfl (hno _ _ rfl) fun σ2 p F2 H2 => fin 3 σ2 p F2 H2 rfl
            · split at ek
              · rename_i e; subst e; cases ek
                exact suite_run (T := T) (j := 4) ek' nx.z l2 g2 (b0 := false) (b1 := false) (b2 := false) (b3 := false) (b4 := true) (by decide +kernel) (by decide +kernel) (by decide +kernel) (by decide +kernel) (by decide +kernel) rfl rfl (hno _ _ rfl) fun σ2 p F2 H2 => fin 4 σ2 p F2 H2 rfl
              · cases ek
    · refine htl _ H F _ (Nx.refl hz) ?_
      cases r with
      | ok d =>
        intro v F1 H1 n1 rv
        refine ⟨by simp; omega, fun p hp => ⟨.ref p, rfl, ?_⟩⟩
        have n2 := n1.trans (Nx.push (T := T) (o := .tup [V.str "told", v]) n1.z hp fun ps z => by cases z)
        exact hq (.ref p) _ _ n2 (.tup (.inl (.inl upd_same)) (.cons (.str _) (.cons (rv.mono (Nx.push (T := T) n1.z hp fun ps z => by cases z).f) .nil)))
      | ex n =>
        intro F1 H1 n1
        cases e : kindIx n with
        | none =>
          have hq : aft (Rp X.K) X.K T (fun _ _ _ _ => False) [] F H Q (match kindIx n with
            | some k => .ok (.tup [.str "refused", .int k])
            | none => .bad) := hq
          rw [e] at hq
          exact hq.elim
        | some k =>
          have hq : aft (Rp X.K) X.K T (fun _ _ _ _ => False) [] F H Q (match kindIx n with
            | some k => .ok (.tup [.str "refused", .int k])
            | none => .bad) := hq
          rw [e] at hq
          exact ⟨n, k, F1, rfl, rfl, e, n1, hq⟩
      | bad => exact hq.elim
end
end DN
namespace DN
open PySem PySem.Spec PyProof.Rows L2
open LamX (Tabs ExtN CodeO GivesTo tLam LamS TabB lamCx lamEnv)

/-- a def that makes lambdas: its code object is known -/
theorem fn_okC {P : Program} {w : World} {K : PySem.W.Frag} {mg : Str → Option Value} {base : Heap} {T : List (Addr × Str)} {k : Nat} {x qual : Str} {params : Arguments} {body : List Stmt} {scope : Scope} {kws : List (Str × V)} {fd : FuncData} {N ps : List Str} {n : Nat} {s : Rho → SR}
    (Fd : FunD K x qual params body scope [] kws (He.ga K x) fd) (S : FnScope N ps scope) (hn : ps.length = n)
    (hb : ∀ (A : Around) (outer : List Env) (s0 : Shared) (H0 : Hp) (E : XK) (F0 : Hp), Room k (A.deeper (envOfC qual scope s0.heap.objs.size (He.ga K x) (.ref (He.cT K (x, none)).1))) → DSs (cxOf (L2.CX P w) P w K mg base N qual scope (He.ga K x) (.ref (He.cT K (x, none)).1) A outer s0 H0 E) T (WofE E) F0 H0 body s) :
    FnOk P w K mg base (L2.CX P w) (k + 1) (He.ga K x) fd ps (spD K T n (runB N.length s)) := by
  obtain ⟨oc, od, dV, kV, doc, pm, an, cdv, ct, osl, rfl, lk, hcd, hD, hK⟩ := Fd.ex
  obtain ⟨c, rfl⟩ := He.codeIn_ref hcd
  have ec : (He.cT K (x, none)).1 = c := He.codeOf_eq (p := (x, none)) lk rfl
  rw [ec] at hb
  refine fn_of lk hcd S (fun vs H Q E h => ?_) fun A outer s0 H vs Q E hr h => ?_
  · obtain ⟨F, ds, _, _, r, hl, _⟩ := h
    rw [r.length, hl, hn]
  · obtain ⟨F, ds, z, tb, r, hl, h⟩ := h
    refine ⟨_, hb A outer s0 H E F hr, startR N.length ds, F, ⟨⟨z, tb, Rl.start r⟩, Nx.refl z, fun i d p h1 => ?_⟩, ?_⟩
    · exfalso
      unfold startR at h1
      rw [List.getElem?_append] at h1
      split at h1
      · rw [List.getElem?_map] at h1
        cases e : ds[i]? with
        | none => rw [e] at h1; cases h1
        | some d => rw [e] at h1; cases h1
      · rw [List.getElem?_replicate] at h1
        split at h1 <;> cases h1
    · unfold runB at h
      cases e : s (startR N.length ds) with
      | nx ρ => rw [e] at h; exact fun σ F' H' g _ => h .non F' H' g.nx .non
      | rt d => rw [e] at h; exact fun v F' H' nx rv => h v F' H' nx rv
      | ex m ρ => rw [e] at h; exact fun σ F' H' g _ => h F' H' g.nx
      | bk ρ => rw [e] at h; exact h.elim
      | ct ρ => rw [e] at h; exact h.elim
      | bad => rw [e] at h; exact h.elim
section
variable {X : Cx} {T : List (Addr × Str)} {W : WX}
theorem nx_tabs {F H H1 : Hp} (z : Fz F H) (e : ExtN H H1) (t : Tabs T H1) : Nx T F H F H1 :=
  ⟨Sub.refl F, ⟨fun a o h => e a o (z.sub a o h) fun ps q => z.nt a ps (by rw [h, q]), z.nt⟩, e, fun a o h => .inl h, fun _ => t⟩
theorem e_told {pg : Arguments} {bg : List Stmt} {sg : Scope} {fd : FuncData} {c P : Addr} {k : Nat} {params : Arguments} {body : Expr} {scope : Scope} {f : Rho → Res D} {p lpos pos : Pos} {q : Str}
    (Fd : FunD X.K "_law_told" "_law_told" pg bg sg [] [] (He.ga X.K "_law_told") fd) (hm : X.mg "_law_told" = some (.ref (He.ga X.K "_law_told"))) (hbn : L2.Binds X.K fd ["deed"] []) (Sg : FnScope ["deed", "found", "e", "kinds"] ["deed"] sg)
    (hG : ∀ cdg, GivesTo X ["deed", "found", "e", "kinds"] "_law_told" sg (He.ga X.K "_law_told") cdg bg "deed" (X.env.qual ++ "<lambda>") (TTd X.K T))
    (TB : TabB X.base X.mg c P) (hcode : X.env.code = .ref c) (hq : X.env.qual ++ "<lambda>" = q) (hmT : (P, q) ∈ T) (hu : ∀ p ∈ T, p.1 = P → p.2 = q) (hg : Gl X "_law_told") (hr : Room (k + 2) X.A) (L : LamX.lamSB X.env.scope scope = true)
    (hbody : ∀ (A : Around) (outer : List Env) (s : Shared) (H : Hp) (E : XK) (f' c' : Addr), Room k (A.deeper (lamEnv X scope s.heap.objs.size f' c')) → DE (lamCx X A outer s H E scope f' c') T (WofE E) body f)
    (hdef : defaultsOf params X.env = ([], []) := by rfl)
    (hbind : ∀ (q : Str) (cl : List (Str × Addr)) (pm cv ctv : Value), bindArgs (PySem.W.kla_fn "<lambda>" q params body scope cl pm cv ctv) ⟨[], []⟩ = pure [] := by intros; rfl) :
    DE X T W (.Call (.Name "_law_told" p) [.Lambda params body scope lpos] [] pos) (toldD f) := by
  subst hq
  obtain ⟨oc, od, dV, kV, doc, pm, an, cdv, ct, osl, rfl, lk, hcd, hD, hK⟩ := Fd.ex
  refine (LamX.pe_lamcall (k := k) (t := fun E => tE X.K T (WofE E) f) hg hm Fd.kp lk hcd hbn Sg rfl (Sg.par "deed" (by simp) |>.elim .inl fun z => .inr (.inl z)) (hG cdv) TB hcode hmT hu hr (LamX.lamS_by L) hdef hbind (fun A outer s H E f' c' hr' => hbody A outer s H E f' c' hr')).to fun σ H Q h => ?_
  obtain ⟨ρ, F, a, h⟩ := h
  refine ⟨a.t, fun H1 e1 t1 => ?_⟩
  have n := nx_tabs a.z e1 t1
  have h := aft.mono n h
  refine ⟨F, f ρ, n.z, fun E H' F' Q' n2 h2 => ⟨ρ, F', (a.nx n).nx n2, ?_⟩, ?_⟩
  · cases e : f ρ with
    | ok d => rw [e] at h2; exact h2
    | ex m => rw [e] at h2; exact h2
    | bad => rw [e] at h2; exact h2
  · unfold toldD at h
    cases e : toldR (f ρ) with
    | ok d => rw [e] at h; exact h
    | bad => rw [e] at h; exact h
    | ex m =>
      exfalso
      unfold toldR at e
      split at e
      · cases e
      · split at e <;> cases e
      · cases e
end
theorem lawAtT {l : PySem.W.OpenLaw} {w : World} {K : PySem.W.Frag} {k n : Nat} {x : Str} {mg : Str → Option Value} {fa : Addr} {h : Heap} {fd : FuncData} {den : List D → Res D} {tf : List He.Defn} {T : List (Addr × Str)} (X : K.In h)
    (hd0 : ∀ p ∈ tf, PySem.W.codeHdIn K (He.cT K p).1 (He.cT K p).2 = true) (out : ∀ p ∈ tf, K.lookup (He.cT K p).2 = none) (empty : ∀ p ∈ tf, h.get? (He.cT K p).2 = some { cls := .none, data := .fields #[] })
    (hT : ∀ p ∈ T, ∃ d ∈ tf, p.1 = (He.cT K d).2)
    (hb : ∀ (s : Shared) (u : Value), BindsTo s fd ⟨[u], []⟩ [(x, u)])
    (hd : ∀ ns : List Int, ns.length ≤ n → (∀ z ∈ ns, Builtin.Int.intBits z ≤ 1048576) → den [.arr ns] = .ok (.bl true))
    (hF : ∀ base : Heap, K.In base → base.Ns mainGlobals mg → (∀ d ∈ tf, TabB base mg (He.cT K d).1 (He.cT K d).2) → FnOk l.prog w K mg base (L2.CX l.prog w) k fa fd [x] (spD K T 1 den)) : LamX.LawAtS l w K (L2.CX l.prog w) k n x mg fa h := by
  have key : ∀ p ∈ tf.map (He.cT K), ∃ d ∈ tf, p = He.cT K d := fun p hp => by
    obtain ⟨d, h1, h2⟩ := List.mem_map.mp hp
    exact ⟨d, h1, h2.symm⟩
  refine ⟨fd, tf.map (He.cT K), spD K T 1 den, fun p hp => ?_, fun p hp => ?_, fun p hp => ?_, hb, fun H a ns hl hz ht hS => law_sp (fun p hp => ?_) hS (hd ns hl hz), fun base h1 h2 h3 => hF base h1 h2 fun d hd => h3 _ (List.mem_map.mpr ⟨d, hd, rfl⟩)⟩
  · obtain ⟨d, h1, rfl⟩ := key p hp; exact empty d h1
  · obtain ⟨d, h1, rfl⟩ := key p hp; exact out d h1
  · obtain ⟨d, h1, rfl⟩ := key p hp; exact PySem.W.codeHd_of_K X (hd0 d h1)
  · obtain ⟨d, h1, h2⟩ := hT p hp
    rw [h2]
    exact LamX.TabS.nil (ht _ (List.mem_map.mpr ⟨d, h1, rfl⟩))
theorem told_c {K : PySem.W.Frag} {mg : Str → Option Value} (h : ∀ n ∈ five, ExK K n) (g0 : mg "TooGreat" = some (.ref (He.ga K "TooGreat"))) (g1 : mg "NoText" = some (.ref (He.ga K "NoText"))) (g2 : mg "NoDeed" = some (.ref (He.ga K "NoDeed"))) (g3 : mg "NoKey" = some (.ref (He.ga K "NoKey"))) (g4 : mg "NoRoom" = some (.ref (He.ga K "NoRoom")))
    (p : mg "PileError" = some (.ref (He.ga K "PileError"))) (i : mg "isinstance" = none) (v : mg "ValueError" = none) : ToldC K mg := ⟨h, fun n hn => by
  unfold five at hn
  simp only [List.mem_cons, List.not_mem_nil, or_false] at hn
  rcases hn with rfl | rfl | rfl | rfl | rfl <;> assumption, p, i, v⟩
theorem exc_n {K : PySem.W.Frag} {h : Heap} {mg : Str → Option Value} {x : Str} (X : K.In h) (G : h.Ns mainGlobals mg) (c : (He.Fa.glo x).ok K = true) (e : (He.Fa.exc x).ok K = true) : ExcN K mg x := by
  obtain ⟨h1, h2, h3, h4⟩ := He.exc_ok e
  exact ⟨h1, h2, h3, h4, He.glo_ok X G c⟩
end DN
namespace DN
open PySem PySem.Spec PyProof.Rows L2
open LamX (Tabs ExtN)
section
variable {X : Cx} {T : List (Addr × Str)} {W : WX}
def min3D : List D → Option D
  | [.int i, .int j, .int k] => some (.int (if k < (if j < i then j else i) then k else if j < i then j else i))
  | _ => none
theorem all3 {K : PySem.W.Frag} {F : Hp} {xs : List V} {a b c : D} (r : RpAll K F xs [a, b, c]) : ∃ x y z, xs = [x, y, z] ∧ Rp K F x a ∧ Rp K F y b ∧ Rp K F z c := by
  cases r with
  | cons h1 r => cases r with
    | cons h2 r => cases r with
      | cons h3 r => cases r; exact ⟨_, _, _, rfl, h1, h2, h3⟩
theorem c_min3 (hc : X.calm = true) : CallR X (.builtin "min") (rDn X.K T min3D) := by
  intro pins s σ H xs us Q I r h
  obtain ⟨F, ds, z, hz, rs, hG, q⟩ := h
  unfold min3D at hG
  split at hG
  · rename_i i j k
    obtain ⟨x, y, w, rfl, r1, r2, r3⟩ := all3 rs
    cases r1
    cases r2
    cases r3
    cases hG
    refine call_min3Nu hc pins s σ H _ us Q I r ⟨.int i, .int j, .int k, .int (if k < (if j < i then j else i) then k else if j < i then j else i), rfl, ?_, done0 hz q (.int _)⟩
    by_cases h1 : j < i
    · by_cases h2 : k < j
      · simp [nuMin3, nuMin2, nuLt, nuCB, h1, h2]
      · simp [nuMin3, nuMin2, nuLt, nuCB, h1, h2]
    · by_cases h2 : k < i
      · simp [nuMin3, nuMin2, nuLt, nuCB, h1, h2]
      · simp [nuMin3, nuMin2, nuLt, nuCB, h1, h2]
  · cases hG
theorem min_iii {i j k : Int} : min3D [.int i, .int j, .int k] = some (.int (if k < (if j < i then j else i) then k else if j < i then j else i)) := rfl
end
end DN
namespace DN
open PySem PySem.Spec PyProof.Rows L2
open LamX (Tabs ExtN)

/-! ### a module's dict of defs, text keys -/
theorem keys_miss {P : Params} {z : Str} : ∀ {l : List DictEntry} {ks : List Str}, l.map He.keyOf = He.keysIn P ks → z ∉ ks → l.find? (·.key.isStr z) = none ∧ l.any (·.refKey) = false
  | [], _, _, _ => ⟨rfl, rfl⟩
  | e :: r, [], h, _ => by cases h
  | e :: r, k :: ks, h, hz => by
    have h1 : He.keyOf e :: r.map He.keyOf = some (k, PyData.keyHash P k) :: He.keysIn P ks := h
    injection h1 with h2 h3
    obtain ⟨i1, i2⟩ := keys_miss h3 (fun q => hz (List.mem_cons_of_mem _ q))
    have hk : ∃ t, e.key = .str k t := by
      unfold He.keyOf at h2
      split at h2
      · rename_i x t q
        obtain ⟨h5, _⟩ := Prod.mk.inj (Option.some.inj h2)
        exact ⟨t, by rw [q, h5]⟩
      · cases h2
    obtain ⟨t, hk⟩ := hk
    have n1 : e.key.isStr z = false := by
      rw [hk]
      show (k == z) = false
      exact beq_eq_false_iff_ne.mpr fun q => hz (by rw [q]; exact List.mem_cons_self)
    have n2 : e.refKey = false := by unfold DictEntry.refKey; rw [hk]
    refine ⟨?_, ?_⟩
    · rw [List.find?_cons, n1]; exact i1
    · rw [List.any_cons, n2, i2]; rfl
/-- the module's dict x: text keys, defs -/
structure DicF (w : World) (K : PySem.W.Frag) (mg : Str → Option Value) (x : Str) (kvs : List (Str × Str)) : Prop where
  kd : ∃ es n, KDict K w (He.ga K x) es n ∧ es.toList.map He.keyOf = He.keysIn w.params (kvs.map Prod.fst)
  vals : ∀ q ∈ kvs, ∃ u, PySem.W.nsIn K (He.ga K x) q.1 = some (some u) ∧ RelV (.ref (He.ga K q.2)) u
  g : mg x = some (.ref (He.ga K x))
theorem DicF.ns {w : World} {K : PySem.W.Frag} {mg : Str → Option Value} {x : Str} {kvs : List (Str × Str)} (D : DicF w K mg x kvs) (z : Str) : ∃ r, PySem.W.nsIn K (He.ga K x) z = some r ∧ r.isSome = (kvs.map Prod.fst).contains z := by
  by_cases h : z ∈ kvs.map Prod.fst
  · obtain ⟨q, hq, rfl⟩ := List.mem_map.mp h
    obtain ⟨u, h1, _⟩ := D.vals q hq
    exact ⟨some u, h1, by rw [List.contains_iff_mem.mpr h]; rfl⟩
  · obtain ⟨es, n, kd, hk⟩ := D.kd
    obtain ⟨h1, h2⟩ := keys_miss hk h
    refine ⟨none, ?_, ?_⟩
    · unfold PySem.W.nsIn
      rw [kd.at_]
      simp only [h1, h2]
      rfl
    · have : (kvs.map Prod.fst).contains z = false := by
        rw [Bool.eq_false_iff]
        exact fun q => h (List.contains_iff_mem.mp q)
      rw [this]; rfl
section
variable {X : Cx} {T : List (Addr × Str)} {W : WX} {F0 H0 : Hp}
/-! ### a call of a name that holds a def -/
/-! ### try with two handlers -/
end
end DN
namespace DN
open PySem PySem.Spec PyProof.Rows L2
open LamX (Tabs ExtN)

section
variable {X : Cx} {T : List (Addr × Str)} {W : WX} {F0 H0 : Hp}
/-! ### a display of text keys that is used at once -/
end
end DN
namespace DN
open PySem PySem.Spec PyProof.Rows L2
open LamX (Tabs ExtN)

section
variable {X : Cx} {T : List (Addr × Str)} {W : WX} {F0 H0 : Hp}
/-! ### a display of text keys, its item taken at once -/
end
/-! ### a module's dict of texts -/
structure DicS (w : World) (K : PySem.W.Frag) (mg : Str → Option Value) (x : Str) (kvs : List (Str × Str)) : Prop where
  kd : ∃ es n, KDict K w (He.ga K x) es n ∧ es.toList.map He.keyOf = He.keysIn w.params (kvs.map Prod.fst)
  vals : ∀ q ∈ kvs, ∃ u, PySem.W.nsIn K (He.ga K x) q.1 = some (some u) ∧ RelV (.str q.2) u
  g : mg x = some (.ref (He.ga K x))
theorem DicS.ns {w : World} {K : PySem.W.Frag} {mg : Str → Option Value} {x : Str} {kvs : List (Str × Str)} (D : DicS w K mg x kvs) (z : Str) : ∃ r, PySem.W.nsIn K (He.ga K x) z = some r ∧ r.isSome = (kvs.map Prod.fst).contains z := by
  by_cases h : z ∈ kvs.map Prod.fst
  · obtain ⟨q, hq, rfl⟩ := List.mem_map.mp h
    obtain ⟨u, h1, _⟩ := D.vals q hq
    exact ⟨some u, h1, by rw [List.contains_iff_mem.mpr h]; rfl⟩
  · obtain ⟨es, n, kd, hk⟩ := D.kd
    obtain ⟨h1, h2⟩ := keys_miss hk h
    refine ⟨none, ?_, ?_⟩
    · unfold PySem.W.nsIn
      rw [kd.at_]
      simp only [h1, h2]
      rfl
    · have : (kvs.map Prod.fst).contains z = false := by
        rw [Bool.eq_false_iff]
        exact fun q => h (List.contains_iff_mem.mp q)
      rw [this]; rfl
section
variable {X : Cx} {T : List (Addr × Str)} {W : WX} {F0 H0 : Hp}
/-! ### a def of which nothing is promised: the recursion's ground -/
end
end DN
/-! lists of the frame's own: made, appended to, stored into, read, frozen -/
namespace DN
open PySem PySem.Spec PyProof.Rows L2
open LamX (Tabs ExtN)

def D.flat : D → Bool
  | .non => true
  | .bl _ => true
  | .int _ => true
  | .str _ => true
  | _ => false
def flatR : Res D → Res D
  | .ok d => if d.flat = true then .ok d else .bad
  | r => r
def frz (i : Nat) (ρ : Rho) : Rho := match ρ[i]? with
  | some (.o (.lst ds)) => ρ.set i (.z (.lst ds))
  | _ => ρ
def bor (i : Nat) (f : Rho → Res D) : Rho → Res D := fun ρ => flatR (f (frz i ρ))
def borQ (i : Nat) (f : Rho → Res Bool) : Rho → Res Bool := fun ρ => f (frz i ρ)
theorem Rp.flat {K : PySem.W.Frag} {F F' : Hp} {v : V} {d : D} (h : Rp K F v d) (e : d.flat = true) : Rp K F' v d := by
  cases h <;> first | exact .non | exact .bl _ | exact .int _ | exact .str _ | cases e
section
variable {K : PySem.W.Frag} {T : List (Addr × Str)} {W : WX} {F0 H0 F H : Hp} {σ : L2.St} {ρ : Rho}
theorem At.frz (a : At K T F H σ ρ) (i : Nat) : ∃ F1, At K T F1 H σ (frz i ρ) ∧ Sub F F1 ∧ (∀ F' H', Nx T F1 H F' H' → Nx T F H F H') ∧ (∀ F0 H0, Nx T F0 H0 F H → Ow H0 σ ρ → Nx T F0 H0 F1 H ∧ Ow H0 σ (frz i ρ)) := by
  have triv : ∃ F1, At K T F1 H σ ρ ∧ Sub F F1 ∧ (∀ F' H', Nx T F1 H F' H' → Nx T F H F H') ∧ (∀ F0 H0, Nx T F0 H0 F H → Ow H0 σ ρ → Nx T F0 H0 F1 H ∧ Ow H0 σ ρ) :=
    ⟨F, a, Sub.refl F, fun F' H' n => ⟨Sub.refl F, ⟨n.f.trans n.z.sub, a.z.nt⟩, n.h, fun _ _ h => .inl h, n.tab⟩, fun F0 H0 n o => ⟨n, o⟩⟩
  unfold DN.frz
  split
  · rename_i ds e
    obtain ⟨p, hs, hp, xs, hx, rx⟩ := a.r.o i _ e
    have sb : Sub F (upd F p (.lst xs)) := fun b o eb => by
      rw [upd_ne fun z => by rw [z, hp] at eb; cases eb]; exact eb
    have z1 : Fz (upd F p (.lst xs)) H := ⟨fun b o eb => by
      by_cases hb : b = p
      · subst hb; rw [upd_same] at eb; rw [← eb]; exact hx
      · rw [upd_ne hb] at eb; exact a.z.sub _ _ eb, fun b ps eb => by
      by_cases hb : b = p
      · subst hb; rw [upd_same] at eb; cases eb
      · rw [upd_ne hb] at eb; exact a.z.nt _ _ eb⟩
    have il : i < ρ.length := (List.getElem?_eq_some_iff.mp e).1
    refine ⟨upd F p (.lst xs), ⟨z1, a.t, ?_⟩, sb, fun F' H' n => ⟨Sub.refl F, ⟨sb.trans (n.f.trans n.z.sub), a.z.nt⟩, n.h, fun _ _ h => .inl h, n.tab⟩, fun F0 H0 n o => ⟨⟨n.f.trans sb, z1, n.h, fun b u eb => ?_, n.tab⟩, fun j d q h1 h2 => ?_⟩⟩
    · refine ⟨by rw [List.length_set]; exact a.r.len, fun j d hj => ?_, fun j d hj => ?_, fun j k d1 d2 q1 q2 hn h1 h2 h3 h4 => ?_⟩
      · rw [List.getElem?_set] at hj
        by_cases hij : i = j
        · subst hij
          rw [if_pos rfl, if_pos il] at hj
          cases hj
          exact ⟨_, hs, .lst upd_same (rx.mono sb)⟩
        · rw [if_neg hij] at hj
          obtain ⟨v, h1, h2⟩ := a.r.z j d hj
          exact ⟨v, h1, h2.mono sb⟩
      · rw [List.getElem?_set] at hj
        by_cases hij : i = j
        · subst hij
          rw [if_pos rfl, if_pos il] at hj
          cases hj
        · rw [if_neg hij] at hj
          obtain ⟨q, h1, h2, h3⟩ := a.r.o j d hj
          have hne : p ≠ q := a.r.ne i j _ _ p q hij e hj hs h1
          refine ⟨q, h1, by rw [upd_ne (Ne.symm hne)]; exact h2, ?_⟩
          cases d with
          | lst es => obtain ⟨ys, k1, k2⟩ := h3; exact ⟨ys, k1, k2.mono sb⟩
          | dK _ => exact h3
          | dT _ => exact h3
          | dic _ _ _ _ => obtain ⟨es, k1, k2⟩ := h3; exact ⟨es, k1, k2.mono sb⟩
          | ins _ _ _ => obtain ⟨dx, ws, k1, k2⟩ := h3; exact ⟨dx, ws, k1, k2.mono sb⟩
          | _ => exact h3.elim
      · rw [List.getElem?_set] at h1 h2
        have fj : i ≠ j := fun z => by rw [if_pos z] at h1; split at h1 <;> cases h1
        have fk : i ≠ k := fun z => by rw [if_pos z] at h2; split at h2 <;> cases h2
        rw [if_neg fj] at h1
        rw [if_neg fk] at h2
        exact a.r.ne j k d1 d2 q1 q2 hn h1 h2 h3 h4
    · by_cases hb : b = p
      · subst hb
        exact .inr fun o' e' => .inl (o i _ b e hs o' e')
      · rw [upd_ne hb] at eb; exact n.new _ _ eb
    · rw [List.getElem?_set] at h1
      by_cases hij : i = j
      · subst hij
        rw [if_pos rfl, if_pos il] at h1
        cases h1
      · rw [if_neg hij] at h1
        exact o j d q h1 h2
  · exact triv
end
section
variable {X : Cx} {T : List (Addr × Str)} {W : WX} {F0 H0 : Hp}
def sfrz (i : Nat) (s : Rho → SR) : Rho → SR := fun ρ => s (frz i ρ)
end

/-! ### made -/
def aftO (K : PySem.W.Frag) (T : List (Addr × Str)) (W : WX) (σ : L2.St) (F H : Hp) (Q : V → Hp → Prop) : Res D → Prop
  | .ok (.lst ds) => ∀ p vs F' H', Nx T F H F' H' → F' p = none → H' p = some (.lst vs) → RpAll K F' vs ds → (∀ o, H p = some o → ∃ ps, o = .tbl ps) → Q (.ref p) H'
  | .ok _ => False
  | .ex n => ∀ F' H', Nx T F H F' H' → W (.ref (He.ga K n)) none σ H'
  | .bad => False
def sown (f : Rho → Res D) (i : Nat) : Rho → SR := fun ρ => bindS (f ρ) ρ fun d => match d with
  | .lst ds => .nx (ρ.set i (.o (.lst ds)))
  | _ => .bad
section
variable {K : PySem.W.Frag} {T : List (Addr × Str)} {W : WX} {F0 H0 F H : Hp} {σ : L2.St} {ρ : Rho}
theorem Rl.setO {i : Nat} {p : Addr} {vs : List V} {ds : List D} (r : Rl K F H σ ρ) (hp : F p = none) (hx : H p = some (.lst vs)) (rx : RpAll K F vs ds) (fr : ∀ (j : Nat) (d : D) (q : Addr), ρ[j]? = some (En.o d) → σ[j]? = some (some (V.ref q)) → q ≠ p) :
    Rl K F H (σ.set i (some (.ref p))) (ρ.set i (.o (.lst ds))) where
  len := by rw [List.length_set, List.length_set]; exact r.len
  z := fun j e hj => by
    rw [List.getElem?_set] at hj ⊢
    by_cases hij : i = j
    · subst hij
      rw [if_pos rfl] at hj
      split at hj <;> cases hj
    · rw [if_neg hij] at hj ⊢
      exact r.z j e hj
  o := fun j e hj => by
    rw [List.getElem?_set] at hj ⊢
    by_cases hij : i = j
    · subst hij
      rw [if_pos rfl] at hj ⊢
      by_cases hl : i < ρ.length
      · rw [if_pos hl] at hj
        rw [if_pos (by rw [r.len]; exact hl)]
        cases hj
        exact ⟨p, rfl, hp, vs, hx, rx⟩
      · rw [if_neg hl] at hj; cases hj
    · rw [if_neg hij] at hj ⊢
      exact r.o j e hj
  ne := fun j k a b q1 q2 hn h1 h2 h3 h4 => by
    rw [List.getElem?_set] at h1 h2 h3 h4
    by_cases fj : i = j
    · have fk : i ≠ k := fun z => hn (fj.symm.trans z)
      rw [if_neg fk] at h2 h4
      rw [if_pos fj] at h3
      have : q1 = p := by split at h3 <;> cases h3; rfl
      rw [this]
      exact Ne.symm (fr k _ q2 h2 h4)
    · rw [if_neg fj] at h1 h3
      by_cases fk : i = k
      · rw [if_pos fk] at h4
        have : q2 = p := by split at h4 <;> cases h4; rfl
        rw [this]
        exact fr j _ q1 h1 h3
      · rw [if_neg fk] at h2 h4
        exact r.ne j k a b q1 q2 hn h1 h2 h3 h4
theorem Ow.setO {i : Nat} {p : Addr} {d : D} (o : Ow H0 σ ρ) (hp : ∀ o, H0 p = some o → ∃ ps, o = .tbl ps) : Ow H0 (σ.set i (some (.ref p))) (ρ.set i (.o d)) := fun j e q h1 h2 => by
  rw [List.getElem?_set] at h1 h2
  by_cases hij : i = j
  · rw [if_pos hij] at h2
    have : q = p := by split at h2 <;> cases h2; rfl
    rw [this]; exact hp
  · rw [if_neg hij] at h1 h2
    exact o j e q h1 h2
/-- an own list made at p, bound to slot i -/
theorem Sg.own {F1 H1 : Hp} {i : Nat} {p : Addr} {vs : List V} {ds : List D} (g : Sg K T F0 H0 F H σ ρ) (n : Nx T F H F1 H1) (hp : F1 p = none) (hx : H1 p = some (.lst vs)) (rx : RpAll K F1 vs ds) (fr : ∀ o, H p = some o → ∃ ps, o = .tbl ps) :
    Sg K T F0 H0 F1 H1 (σ.set i (some (.ref p))) (ρ.set i (.o (.lst ds))) := by
  have g1 := g.step n
  refine ⟨⟨g1.at_.z, g1.at_.t, g1.at_.r.setO hp hx rx fun j d q h1 h2 e => ?_⟩, g1.nx, g1.ow.setO fun o ho => ?_⟩
  · obtain ⟨q', k1, k2, k3⟩ := g.at_.r.o j d h1
    rw [h2] at k1
    cases k1
    obtain ⟨o, k4, k5⟩ := k3.solid
    rw [e] at k4
    obtain ⟨ps, k6⟩ := fr o k4
    exact k5 ps k6
  · by_cases q : ∃ ps, o = .tbl ps
    · exact q
    · exact fr o (g.nx.h p o ho fun ps z => q ⟨ps, z⟩)
end
section
variable {X : Cx} {T : List (Addr × Str)} {W : WX} {F0 H0 : Hp}
theorem back_tbl {H H2 : Hp} {p : Addr} (n : ExtN H H2) (fr : ∀ o, H2 p = some o → ∃ ps, o = .tbl ps) : ∀ o, H p = some o → ∃ ps, o = .tbl ps := fun o ho => by
  by_cases q : ∃ ps, o = .tbl ps
  · exact q
  · exact fr o (n p o ho fun ps z => q ⟨ps, z⟩)
theorem aftO.bind {K : PySem.W.Frag} {σ : L2.St} {F H : Hp} {α β : Type} {R : Hp → α → β → Prop} {Q : V → Hp → Prop} {r : Res β} {k : β → Res D} (h : aftO K T W σ F H Q (r.bind k)) :
    aft R K T W σ F H (fun a H1 => ∃ b F1, r = .ok b ∧ Nx T F H F1 H1 ∧ R F1 a b ∧ aftO K T W σ F1 H1 Q (k b)) r := by
  cases r with
  | ok b =>
    refine fun a F2 H2 n ra => ⟨b, F2, rfl, n, ra, ?_⟩
    have h : aftO K T W σ F H Q (k b) := h
    cases e : k b with
    | ok d =>
      rw [e] at h
      cases d with
      | lst ds => exact fun p vs F' H' n2 hp hx rx fr => h p vs F' H' (n.trans n2) hp hx rx (back_tbl n.h fr)
      | _ => exact h.elim
    | ex m => rw [e] at h; exact fun F' H' n2 => h F' H' (n.trans n2)
    | bad => rw [e] at h; exact h.elim
  | ex m => exact h
  | bad => exact h
/-! ### appended, stored, read -/
def ownR (i : Nat) (ρ : Rho) : Res (List D) := match ρ[i]? with
  | some (.o (.lst ds)) => .ok ds
  | _ => .bad
def sapp (i : Nat) (f : Rho → Res D) : Rho → SR := fun ρ => bindS (ownR i ρ) ρ fun ds => bindS (f ρ) ρ fun d => if ds.length < sizeLine then .nx (ρ.set i (.o (.lst (ds ++ [d])))) else .bad
theorem RpAll.set {K : PySem.W.Frag} {F : Hp} : ∀ {vs : List V} {ds : List D} (n : Nat) {v : V} {d : D}, RpAll K F vs ds → Rp K F v d → RpAll K F (vs.set n v) (ds.set n d)
  | _, _, _, _, _, .nil, _ => .nil
  | _, _, 0, _, _, .cons _ t, r => .cons r t
  | _, _, n + 1, _, _, .cons h t, r => .cons h (RpAll.set n t r)
def sput (i : Nat) (fk fe : Rho → Res D) : Rho → SR := fun ρ => bindS (fe ρ) ρ fun d => bindS (ownR i ρ) ρ fun ds => bindS (fk ρ) ρ fun k => match k with
  | .int j => (match ixN ds.length j with
    | some m => .nx (ρ.set i (.o (.lst (ds.set m d))))
    | none => .bad)
  | _ => .bad
def ixO (i : Nat) (fk : Rho → Res D) : Rho → Res D := fun ρ => (ownR i ρ).bind fun ds => (fk ρ).bind fun k => match k with
  | .int j => ofO (atI ds j)
  | _ => .bad
end
end DN
/-! comprehensions with any target; lists made so are own or frozen -/
namespace DN
open PySem PySem.Spec PyProof.Rows L2
open LamX (Tabs ExtN)

/-! targets that touch the slots vs alone -/
section
variable {X : Cx} {T : List (Addr × Str)} {W : WX} {F0 H0 : Hp} {vs : List Nat}
end
section
variable {X : Cx} {T : List (Addr × Str)} {W : WX} {F0 H0 : Hp}
section
variable {j : Nat} {y : Str} {py : Pos} {elt tg iter : Expr} {ifs : List Expr} {scope : Scope} {own : List (Str × Nat)} {pos spos : Pos} {f : Rho → Res (List D)} {g : Tg} {t : Rho → Res Bool} {e : Rho → Res D}
end
end
end DN
/-! min, max and index of a list of ints; evaluation of own lists -/
namespace DN
open PySem PySem.Spec PyProof.Rows L2
open LamX (Tabs ExtN)

section
variable {X : Cx} {T : List (Addr × Str)} {W : WX} {F0 H0 : Hp}
end
/-! ### evaluation -/
section
variable {ρ : Rho}
def ownRR (r : Res D) (ρ : Rho) (i : Nat) : SR := bindS r ρ fun d => match d with
  | .lst ds => .nx (ρ.set i (.o (.lst ds)))
  | _ => .bad
theorem sown_def {f : Rho → Res D} {i : Nat} : sown f i ρ = ownRR (f ρ) ρ i := rfl
theorem ownRR_ok {ds : List D} {i : Nat} : ownRR (.ok (.lst ds)) ρ i = .nx (ρ.set i (.o (.lst ds))) := rfl
theorem frz_lst {ds : List D} {r : Rho} : frz 0 (.o (.lst ds) :: r) = .z (.lst ds) :: r := rfl
theorem frz_z {d : D} {r : Rho} : frz 0 (.z d :: r) = .z d :: r := rfl
theorem frz_u {r : Rho} : frz 0 (.u :: r) = .u :: r := rfl
theorem frz_succ {i : Nat} {e : En} {r : Rho} : frz (i + 1) (e :: r) = e :: frz i r := by
  unfold frz
  rw [List.getElem?_cons_succ]
  cases r[i]? with
  | none => rfl
  | some en =>
    cases en with
    | u => rfl
    | z d => rfl
    | o d => cases d <;> rfl
theorem sfrz_def {i : Nat} {s : Rho → SR} : sfrz i s ρ = s (frz i ρ) := rfl
theorem bor_def {i : Nat} {f : Rho → Res D} : bor i f ρ = flatR (f (frz i ρ)) := rfl
theorem borQ_def {i : Nat} {f : Rho → Res Bool} : borQ i f ρ = f (frz i ρ) := rfl
theorem flat_i {i : Int} : flatR (.ok (.int i)) = .ok (.int i) := rfl
theorem flat_s {x : Str} : flatR (.ok (.str x)) = .ok (.str x) := rfl
theorem flat_b {b : Bool} : flatR (.ok (.bl b)) = .ok (.bl b) := rfl
theorem flat_n : flatR (.ok .non) = .ok .non := rfl
theorem own_zero {ds : List D} {r : Rho} : ownR 0 (.o (.lst ds) :: r) = .ok ds := rfl
theorem own_succ {i : Nat} {e : En} {r : Rho} : ownR (i + 1) (e :: r) = ownR i r := rfl
def appRR (ds : Res (List D)) (r : Res D) (ρ : Rho) (i : Nat) : SR := bindS ds ρ fun ds => bindS r ρ fun d => if ds.length < sizeLine then .nx (ρ.set i (.o (.lst (ds ++ [d])))) else .bad
theorem sapp_def {i : Nat} {f : Rho → Res D} : sapp i f ρ = appRR (ownR i ρ) (f ρ) ρ i := rfl
def putRR (v : Res D) (ds : Res (List D)) (k : Res D) (ρ : Rho) (i : Nat) : SR := bindS v ρ fun d => bindS ds ρ fun ds => bindS k ρ fun k => match k with
  | .int j => (match ixN ds.length j with
    | some m => .nx (ρ.set i (.o (.lst (ds.set m d))))
    | none => .bad)
  | _ => .bad
theorem sput_def {i : Nat} {f g : Rho → Res D} : sput i f g ρ = putRR (g ρ) (ownR i ρ) (f ρ) ρ i := rfl
def ixRR (ds : Res (List D)) (k : Res D) : Res D := ds.bind fun ds => k.bind fun k => match k with
  | .int j => ofO (atI ds j)
  | _ => .bad
theorem ixO_def {i : Nat} {f : Rho → Res D} : ixO i f ρ = ixRR (ownR i ρ) (f ρ) := rfl
end
end DN
/-! list(x) as an own list -/
namespace DN
open PySem PySem.Spec PyProof.Rows L2
open LamX (Tabs ExtN)
section
variable {X : Cx} {T : List (Addr × Str)} {W : WX}
end
end DN
/-! sorted of a list of texts -/
namespace DN
open PySem PySem.Spec PyProof.Rows L2
open LamX (Tabs ExtN)
section
variable {X : Cx} {T : List (Addr × Str)} {W : WX}
end
end DN
/-! tuples of texts whose object is known: tuple(list), len, [], in, index, + -/
namespace DN
open PySem PySem.Spec PyProof.Rows L2
open LamX (Tabs ExtN)
section
variable {X : Cx} {T : List (Addr × Str)} {W : WX}
/-! t.index(x), t a tuple whose object is known: one argument, by the kit's wpAny_Call_method1_late -/
variable {o e : Expr} {to : TE} {t : TA} {apos cpos : Pos}
end
end DN
/-! str.replace: rules where a token is out -/
namespace DN
open PySem PySem.Spec PyProof.Rows L2
open LamX (Tabs ExtN)
section
variable {X : Cx} {T : List (Addr × Str)} {W : WX} {F0 H0 : Hp}
end
end DN
/-! zip of two lists, of two tuples -/
namespace DN
open PySem PySem.Spec PyProof.Rows L2
open LamX (Tabs ExtN)
open RZ (ItzT iZipA pi_zipA)
section
variable {X : Cx} {T : List (Addr × Str)} {W : WX}
end
end DN
/-! x.replace(y, z, 1); statements behind which a token is out -/
namespace PySem
open Builtin Builtin.Str
section
variable {prog : Program} {w : World} {A : Around} {E : Value → Shared → Prop} {s : Shared} {x y z : Str} {t u v c : Tok} {Q : Value → Shared → Prop}
end
end PySem
namespace DN
open PySem PySem.Spec PyProof.Rows L2
open LamX (Tabs ExtN)
section
variable {X : Cx} {T : List (Addr × Str)} {W : WX} {F0 H0 : Hp}
end
end DN
/-! DN25: repr of nested tuples; a law whose body is read under the outermost call alone (no repr is under way there). -/
namespace DN
open PySem PySem.Spec PyProof.Rows L2
open LamX (Tabs ExtN TabB)

section
variable {X : Cx} {T : List (Addr × Str)}
end
/-! ### a law's def, read under the outermost call -/
/-! the heap at the law's entry: the script (if the head doesn't hold it) and the empty tables are tracked -/
section
variable {K : PySem.W.Frag} {cs : List (Addr × Addr)} {a b : Addr} {o : Obj} {ns : List Int} {h : Heap} {u : HO}
end
section
variable {l : PySem.W.OpenLaw} {w : World} {K : PySem.W.Frag} {n : Nat} {x : Str} {mg mb : Str → Option Value} {fa a : Addr} {fd : FuncData} {cs : List (Addr × Addr)} {sp : Sp} {s s' : Shared} {vs : List Value} {ns : List Int} {o : Obj}
end
end DN
/-! dicts of the frame's own whose keys are nested tuples -/
namespace DN
open PySem PySem.Spec PyProof.Rows L2
open LamX (Tabs ExtN)

section
variable {X : Cx} {pins : List (Addr × Obj)} {σ : L2.St} {F H : Hp} {s : Shared}
end
/-! ### looked up, stored -/
section
variable {K : PySem.W.Frag} {F : Hp} {es : List (NestedKey × Addr × V)} {ks vs : List D} {xs : List (NestedKey × Addr × Value)} {n : NestedKey}
end
/-! ### the operations, by the heap -/
section
variable {X : Cx}
theorem DicR.length {K : PySem.W.Frag} {F : Hp} {es : List (NestedKey × Addr × V)} {ks vs : List D} (r : DicR K F es ks vs) : es.length = ks.length := by
  induction r with
  | nil => rfl
  | cons _ _ _ _ _ ih => rw [List.length_cons, List.length_cons, ih]
end
/-! ### no dict is a code object -/
theorem tabs_updG {T : List (Addr × Str)} {H : Hp} {p : Addr} {o o' : HO} (h : Tabs T H) (e : H p = some o) (h1 : ∀ ps, o ≠ .tbl ps) (h2 : ∀ q, o ≠ LamX.CodeO p q) : Tabs T (upd H p o') := fun q hq => by
  obtain ⟨ps, k1, k2, k3⟩ := h q hq
  refine ⟨ps, ?_, k2, fun pos cv hc => ?_⟩
  · rw [upd_ne fun z => by rw [z, e] at k1; exact h1 ps (Option.some.inj k1)]; exact k1
  · obtain ⟨c, e1, e2⟩ := k3 pos cv hc
    refine ⟨c, e1, ?_⟩
    rw [upd_ne fun z => by subst z; rw [e] at e2; exact h2 _ (Option.some.inj e2)]; exact e2
theorem OwnAt.updN {K : PySem.W.Frag} {F H : Hp} {p q : Addr} {o : HO} (hne : q ≠ p) : ∀ {d : D}, OwnAt K F H q d → OwnAt K F (upd H p o) q d
  | .lst ds, ⟨zs, k1, k2⟩ => ⟨zs, by rw [upd_ne hne]; exact k1, k2⟩
  | .dK _, h => by show upd H p o q = _; rw [upd_ne hne]; exact h
  | .dT _, h => by show upd H p o q = _; rw [upd_ne hne]; exact h
  | .dic _ _ _ _, ⟨es, k1, k2⟩ => ⟨es, by rw [upd_ne hne]; exact k1, k2⟩
  | .ins _ _ _, ⟨dx, ws, k1, k2⟩ => ⟨dx, ws, by rw [upd_ne hne]; exact k1, k2⟩
  | .non, h => h.elim
  | .bl _, h => h.elim
  | .int _, h => h.elim
  | .str _, h => h.elim
  | .tup _, h => h.elim
  | .fn _, h => h.elim
  | .ty _, h => h.elim
  | .arr _, h => h.elim
  | .pro _, h => h.elim
  | .adr _, h => h.elim
  | .tab _ _ _, h => h.elim
section
variable {K : PySem.W.Frag} {T : List (Addr × Str)} {W : WX} {F0 H0 F H : Hp} {σ : L2.St} {ρ : Rho}
end
/-! ### by data -/
section
variable {X : Cx} {T : List (Addr × Str)} {W : WX} {F0 H0 : Hp}
end
end DN
/-! known tuples of texts: written ones, + -/
namespace DN
open PySem PySem.Spec PyProof.Rows L2
open LamX (Tabs ExtN)
section
variable {X : Cx} {T : List (Addr × Str)} {W : WX}
end
end DN
/-! M-mode: one slot holds a dict of text keys that is changed, also by callees -/
namespace DN
open PySem PySem.Spec PyProof.Rows L2
open LamX (Tabs ExtN)

/-! ### data without lists and dicts -/
mutual
def D.imm : D → Bool
  | .non => true
  | .bl _ => true
  | .int _ => true
  | .str _ => true
  | .fn _ => true
  | .ty _ => true
  | .adr _ => true
  | .pro _ => true
  | .pw _ => true
  | .tup ds => D.imms ds
  | _ => false
def D.imms : List D → Bool
  | [] => true
  | d :: ds => D.imm d && D.imms ds
end
/-- F without the addresses of S -/
def cut (F : Hp) (S : List Addr) : Hp := fun a => if a ∈ S then none else F a
theorem cut_out {F : Hp} {S : List Addr} {a : Addr} (h : a ∉ S) : cut F S a = F a := if_neg h
/-- lists and dicts alone stand there -/
def Soft (F : Hp) (S : List Addr) : Prop := ∀ a ∈ S, ∀ o, F a = some o → (∃ xs, o = .lst xs) ∨ ∃ kvs, o = .dK kvs
theorem cut_sqT {K : PySem.W.Frag} {F : Hp} {S : List Addr} {a : Addr} {xs : List V} (h : SqT K F a xs) (hs : Soft F S) : SqT K (cut F S) a xs := by
  rcases h with h | h
  · refine .inl ?_
    rcases h with h | ⟨o, h⟩
    · refine .inl ?_
      rw [cut_out fun z => ?_]; exact h
      rcases hs a z _ h with ⟨_, e⟩ | ⟨_, e⟩ <;> cases e
    · refine .inr ⟨o, ?_⟩
      rw [cut_out fun z => ?_]; exact h
      rcases hs a z _ h with ⟨_, e⟩ | ⟨_, e⟩ <;> cases e
  · exact .inr h
mutual
theorem Rp.cutS {K : PySem.W.Frag} {F : Hp} {S : List Addr} (hs : Soft F S) : ∀ {v : V} {d : D}, Rp K F v d → d.imm = true → Rp K (cut F S) v d
  | _, _, .non, _ => .non
  | _, _, .bl b, _ => .bl b
  | _, _, .int i, _ => .int i
  | _, _, .str x, _ => .str x
  | _, _, .fn x, _ => .fn x
  | _, _, .ty n, _ => .ty n
  | _, _, .lst h t, e => by unfold D.imm at e; cases e
  | _, _, .tup h t, e => .tup (cut_sqT h hs) (RpAll.cutS hs t (by unfold D.imm at e; exact e))
  | _, _, .dK h, e => by unfold D.imm at e; cases e
  | _, _, .dT h, e => by unfold D.imm at e; cases e
  | _, _, .arr h, e => by unfold D.imm at e; cases e
  | _, _, .pro ⟨o, h1, h2, h3⟩, _ => .pro ⟨o, h1, h2, by
      rw [cut_out fun z => ?_]; exact h3
      rcases hs _ z _ h3 with ⟨_, e⟩ | ⟨_, e⟩ <;> cases e⟩
  | _, _, .pw h, _ => .pw (by
      rw [cut_out fun z => ?_]; exact h
      rcases hs _ z _ h with ⟨_, e⟩ | ⟨_, e⟩ <;> cases e)
  | _, _, .adr a, _ => .adr a
  | _, _, .frm h t, e => by unfold D.imm at e; cases e
  | _, _, .tab h1 h2 h3 t, e => by unfold D.imm at e; cases e
theorem RpAll.cutS {K : PySem.W.Frag} {F : Hp} {S : List Addr} (hs : Soft F S) : ∀ {vs : List V} {ds : List D}, RpAll K F vs ds → D.imms ds = true → RpAll K (cut F S) vs ds
  | _, _, .nil, _ => .nil
  | _, _, .cons h t, e => by
    unfold D.imms at e
    rw [Bool.and_eq_true] at e
    exact .cons (Rp.cutS hs h e.1) (RpAll.cutS hs t e.2)
end
/-! ### the state -/
/-- the fields: tuples and flat things, or own lists of such (their addresses) -/
inductive Flds (K : PySem.W.Frag) (F H : Hp) : List V → List D → List Addr → Prop
  | nil : Flds K F H [] [] []
  | imm {v : V} {d : D} {vs : List V} {ds : List D} {S : List Addr} : d.imm = true → Rp K F v d → Flds K F H vs ds S → Flds K F H (v :: vs) (d :: ds) S
  | lst {a : Addr} {xs : List V} {es : List D} {vs : List V} {ds : List D} {S : List Addr} : H a = some (.lst xs) → RpAll K F xs es → D.imms es = true → Flds K F H vs ds S → Flds K F H (.ref a :: vs) (.lst es :: ds) (a :: S)
abbrev MSt := List Str × List D
structure StAt (K : PySem.W.Frag) (F H : Hp) (p : Addr) (m : MSt) (S : List Addr) : Prop where
  ex : ∃ ws S', S = p :: S' ∧ H p = some (.dK (kvK m.1 ws)) ∧ m.1.length = ws.length ∧ Flds K F H ws m.2 S'
  nd : S.Nodup
  out : ∀ a ∈ S, F a = none
  nk : m.1.Nodup
theorem Flds.solid {K : PySem.W.Frag} {F H : Hp} {ws : List V} {ds : List D} {S : List Addr} (h : Flds K F H ws ds S) : ∀ a ∈ S, ∃ xs, H a = some (.lst xs) := by
  induction h with
  | nil => intro a h; cases h
  | imm _ _ _ ih => exact ih
  | lst h _ _ _ ih =>
    intro a ha
    rcases List.mem_cons.mp ha with rfl | ha
    · exact ⟨_, h⟩
    · exact ih a ha
theorem StAt.solid {K : PySem.W.Frag} {F H : Hp} {p : Addr} {m : MSt} {S : List Addr} (h : StAt K F H p m S) : ∀ a ∈ S, ∃ o, H a = some o ∧ ((∃ xs, o = .lst xs) ∨ ∃ kvs, o = .dK kvs) := by
  obtain ⟨ws, S', rfl, h1, _, h2⟩ := h.ex
  intro a ha
  rcases List.mem_cons.mp ha with rfl | ha
  · exact ⟨_, h1, .inr ⟨_, rfl⟩⟩
  · obtain ⟨xs, e⟩ := h2.solid a ha
    exact ⟨_, e, .inl ⟨_, rfl⟩⟩
theorem soft_nt {o : HO} (h : (∃ xs, o = .lst xs) ∨ ∃ kvs, o = .dK kvs) : ∀ ps, o ≠ .tbl ps := fun ps z => by
  rcases h with ⟨_, e⟩ | ⟨_, e⟩ <;> (rw [e] at z; cases z)
theorem StAt.mem {K : PySem.W.Frag} {F H : Hp} {p : Addr} {m : MSt} {S : List Addr} (h : StAt K F H p m S) : p ∈ S := by
  obtain ⟨_, _, rfl, _⟩ := h.ex
  exact List.mem_cons_self
theorem Flds.mono {K : PySem.W.Frag} {F H F' H' : Hp} {ws : List V} {ds : List D} {S : List Addr} (sf : Sub F F') (sh : ∀ a ∈ S, ∀ xs, H a = some (.lst xs) → H' a = some (.lst xs)) (h : Flds K F H ws ds S) : Flds K F' H' ws ds S := by
  induction h with
  | nil => exact .nil
  | imm e r _ ih => exact .imm e (r.mono sf) (ih sh)
  | lst h r e _ ih => exact .lst (sh _ List.mem_cons_self _ h) (r.mono sf) e (ih fun a ha => sh a (List.mem_cons_of_mem _ ha))
section
variable {K : PySem.W.Frag} {T : List (Addr × Str)} {W : WX} {F0 G F H F1 H1 : Hp} {σ : L2.St} {ρ : Rho} {p : Addr} {m : MSt} {S : List Addr}
theorem StAt.nx (h : StAt K F H p m S) (n : Nx T F H F1 H1) : StAt K F1 H1 p m S where
  ex := by
    obtain ⟨ws, S', e, h1, hl, h2⟩ := h.ex
    exact ⟨ws, S', e, n.keep h1 (fun ps z => by cases z), hl, h2.mono n.f fun a _ xs e => n.keep e fun ps z => by cases z⟩
  nd := h.nd
  nk := h.nk
  out := fun a ha => by
    obtain ⟨o, h1, h2⟩ := h.solid a ha
    exact n.out h1 (soft_nt h2) (h.out a ha) fun xs z => by rcases h2 with ⟨_, e⟩ | ⟨_, e⟩ <;> (rw [e] at z; cases z)
/-! ### lent: the state stands in the frozen part for a while -/
def lend (F H : Hp) (S : List Addr) : Hp := fun a => if a ∈ S then H a else F a
theorem lend_in {a : Addr} (h : a ∈ S) : lend F H S a = H a := if_pos h
theorem lend_out {a : Addr} (h : a ∉ S) : lend F H S a = F a := if_neg h
theorem lend_sub (h : ∀ a ∈ S, F a = none) : Sub F (lend F H S) := fun a o e => by
  rw [lend_out fun z => by rw [h a z] at e; cases e]; exact e
theorem lend_z (z : Fz F H) (h : StAt K F H p m S) : Fz (lend F H S) H where
  sub := fun a o e => by
    by_cases ha : a ∈ S
    · rw [lend_in ha] at e; exact e
    · rw [lend_out ha] at e; exact z.sub a o e
  nt := fun a ps e => by
    by_cases ha : a ∈ S
    · rw [lend_in ha] at e
      obtain ⟨o, h1, h2⟩ := h.solid a ha
      rw [e] at h1; cases h1
      exact soft_nt h2 ps rfl
    · rw [lend_out ha] at e; exact z.nt a ps e
theorem lend_flds {ws : List V} {ds : List D} {S' : List Addr} (sb : ∀ a ∈ S', a ∈ S) (sf : Sub F (lend F H S)) (h : Flds K F H ws ds S') : RpAll K (lend F H S) ws ds := by
  induction h with
  | nil => exact .nil
  | imm e r _ ih => exact .cons (r.mono sf) (ih sb)
  | lst h r e _ ih => exact .cons (.lst (by rw [lend_in (sb _ List.mem_cons_self)]; exact h) (r.mono sf)) (ih fun a ha => sb a (List.mem_cons_of_mem _ ha))
theorem lend_rp (h : StAt K F H p m S) : Rp K (lend F H S) (.ref p) (.tab (some p) m.1 m.2) := by
  obtain ⟨ws, S', e, h1, hl, h2⟩ := h.ex
  exact .tab (fun q e => Option.some.inj e) (by rw [lend_in h.mem]; exact h1) hl (lend_flds (fun a ha => by rw [e]; exact List.mem_cons_of_mem _ ha) (lend_sub h.out) h2)
end
end DN
namespace DN
open PySem PySem.Spec PyProof.Rows L2
open LamX (Tabs ExtN)

/-! ### M-mode: statements -/
inductive SM where
  | nx (ρ : Rho) (m : MSt) | fin (b : Bool) (m : MSt) | rt (d : D) | ex (n : Str) | bad
def Free (G : Hp) (S : List Addr) : Prop := ∀ a ∈ S, ∀ o, G a = some o → ∃ ps, o = HO.tbl ps
structure Mg (K : PySem.W.Frag) (T : List (Addr × Str)) (F0 G F H : Hp) (σ : L2.St) (ρ : Rho) (i : Nat) (p : Addr) (m : MSt) (S : List Addr) : Prop where
  at_ : At K T F H σ ρ
  nx : Nx T F0 G F H
  no : ∀ (j : Nat) (d : D), ρ[j]? ≠ some (En.o d)
  me : ρ[i]? = some (En.z (.adr p))
  st : StAt K F H p m S
  fr : Free G S
def aftM (K : PySem.W.Frag) (T : List (Addr × Str)) (W : WX) (F0 G F : Hp) (i : Nat) (p : Addr) (Z : Ends) : SM → Prop
  | .nx ρ m => ∀ σ F' H' S, Mg K T F0 G F' H' σ ρ i p m S → Sub F F' → Z.nx σ H'
  | .fin b m => ∀ F' H' S, Nx T F0 G F' H' → StAt K F' H' p m S → Free G S → Z.rt (if b = true then .ref p else .non) H'
  | .rt d => ∀ v F' H', Nx T F0 G F' H' → Rp K F' v d → Z.rt v H'
  | .ex n => ∀ σ F' H', Nx T F0 G F' H' → W (.ref (He.ga K n)) none σ H'
  | .bad => False
section
variable {K : PySem.W.Frag} {T : List (Addr × Str)} {W : WX} {F0 G F H F1 H1 : Hp} {σ : L2.St} {ρ : Rho} {i : Nat} {p : Addr} {m : MSt} {S : List Addr} {Z : Ends}
theorem aftM.mono {r : SM} (e : Sub F F1) (h : aftM K T W F0 G F i p Z r) : aftM K T W F0 G F1 i p Z r := by
  cases r with
  | nx ρ m => exact fun σ F' H' S g s => h σ F' H' S g (e.trans s)
  | fin b m => exact h
  | rt d => exact h
  | ex n => exact h
  | bad => exact h
theorem Mg.step (g : Mg K T F0 G F H σ ρ i p m S) (n : Nx T F H F1 H1) : Mg K T F0 G F1 H1 σ ρ i p m S := ⟨g.at_.nx n, g.nx.trans n, g.no, g.me, g.st.nx n, g.fr⟩
theorem Mg.sg (g : Mg K T F0 G F H σ ρ i p m S) : Sg K T F H F H σ ρ := ⟨g.at_, Nx.refl g.at_.z, fun j d q h1 => absurd h1 (g.no j d)⟩
end
def adrOf (i : Nat) (ρ : Rho) : Option Addr := match ρ[i]? with
  | some (.z (.adr p)) => some p
  | _ => none
theorem adrOf_me {i : Nat} {ρ : Rho} {p : Addr} (h : ρ[i]? = some (En.z (.adr p))) : adrOf i ρ = some p := by
  unfold adrOf; rw [h]
def lent (i : Nat) (ρ : Rho) (m : MSt) : Rho := match adrOf i ρ with
  | some p => ρ.set i (.z (.tab (some p) m.1 m.2))
  | none => ρ
section
variable {K : PySem.W.Frag} {T : List (Addr × Str)} {W : WX} {F0 G F H F1 H1 : Hp} {σ : L2.St} {ρ : Rho} {i : Nat} {p : Addr} {m : MSt} {S : List Addr} {Z : Ends}
theorem lent_me (h : ρ[i]? = some (En.z (.adr p))) : lent i ρ m = ρ.set i (.z (.tab (some p) m.1 m.2)) := by
  unfold lent; rw [adrOf_me h]
theorem Mg.lent (g : Mg K T F0 G F H σ ρ i p m S) : At K T (lend F H S) H σ (DN.lent i ρ m) := by
  rw [lent_me g.me]
  have sb := lend_sub (H := H) g.st.out
  obtain ⟨v, h1, h2⟩ := g.at_.r.z i _ g.me
  cases h2
  have r : Rl K (lend F H S) H σ ρ := ⟨g.at_.r.len, fun j d e => let ⟨v, h1, h2⟩ := g.at_.r.z j d e; ⟨v, h1, h2.mono sb⟩, fun j d e => absurd e (g.no j d), fun j k d e q1 q2 _ h => absurd h (g.no j d)⟩
  have il : i < ρ.length := (List.getElem?_eq_some_iff.mp g.me).1
  have e : σ.set i (some (V.ref p)) = σ := by
    refine List.ext_getElem? fun j => ?_
    rw [List.getElem?_set]
    split
    · rename_i hij; subst hij
      rw [if_pos (by rw [g.at_.r.len]; exact il), h1]
    · rfl
  have := r.set (i := i) (lend_rp g.st)
  rw [e] at this
  exact ⟨lend_z g.at_.z g.st, g.at_.t, this⟩
end
section
variable {X : Cx} {T : List (Addr × Str)} {W : WX} {F0 G : Hp} {i : Nat}
theorem Mg.adr {K : PySem.W.Frag} {F H : Hp} {σ : L2.St} {ρ : Rho} {p q : Addr} {m m' : MSt} {S S' : List Addr} {F1 H1 : Hp} (g : Mg K T F0 G F H σ ρ i p m S) (e : ρ[i]? = some (En.z (.adr q))) : p = q := by
  rw [g.me] at e; cases e; rfl
end
end DN
namespace DN
open PySem PySem.Spec PyProof.Rows L2
open LamX (Tabs ExtN)

/-! ### the state is changed -/
def fset {α : Type} : List Str → List α → Str → α → List α
  | k :: ks, w :: ws, x, v => (if k = x then v else w) :: fset ks ws x v
  | _, ws, _, _ => ws
def fget {α : Type} : List Str → List α → Str → Option α
  | k :: ks, w :: ws, x => if k = x then some w else fget ks ws x
  | _, _, _ => none
theorem fset_out {α : Type} : ∀ (ks : List Str) (ws : List α) (x : Str) (v : α), x ∉ ks → fset ks ws x v = ws
  | [], _, _, _, _ => rfl
  | _ :: _, [], _, _, _ => rfl
  | k :: ks, w :: ws, x, v, h => by
    show (if k = x then v else w) :: fset ks ws x v = _
    rw [if_neg fun e => h (by rw [e]; exact List.mem_cons_self), fset_out ks ws x v fun e => h (List.mem_cons_of_mem _ e)]
section
variable {K : PySem.W.Frag} {T : List (Addr × Str)} {W : WX} {F0 G F H F1 H1 : Hp} {σ : L2.St} {ρ : Rho} {i : Nat} {p : Addr} {m m' : MSt} {S S' : List Addr} {Z : Ends}
theorem Flds.length {ws : List V} {ds : List D} (h : Flds K F H ws ds S) : ws.length = ds.length := by
  induction h with
  | nil => rfl
  | imm _ _ _ ih => rw [List.length_cons, List.length_cons, ih]
  | lst _ _ _ _ ih => rw [List.length_cons, List.length_cons, ih]
theorem soft_code {o : HO} {a : Addr} (h : (∃ xs, o = .lst xs) ∨ ∃ kvs, o = .dK kvs) : ∀ q, o ≠ LamX.CodeO a q := fun q z => by
  unfold LamX.CodeO at z
  rcases h with ⟨_, e⟩ | ⟨_, e⟩ <;> (rw [e] at z; cases z)
theorem Mg.put {q : Addr} {o' : HO} (g : Mg K T F0 G F H σ ρ i p m S) (hq : q ∈ S) (st : StAt K F (upd H q o') p m' S') (fr : Free G S') : Mg K T F0 G F (upd H q o') σ ρ i p m' S' := by
  obtain ⟨o, h1, h2⟩ := g.st.solid q hq
  have fq := g.st.out q hq
  have z1 : Fz F (upd H q o') := ⟨fun b u eb => by
    rw [upd_ne fun z => by rw [z, fq] at eb; cases eb]; exact g.at_.z.sub _ _ eb, g.at_.z.nt⟩
  refine ⟨⟨z1, tabs_updG g.at_.t h1 (soft_nt h2) (soft_code h2), ⟨g.at_.r.len, g.at_.r.z, fun j d e => absurd e (g.no j d), fun j k d e q1 q2 _ h => absurd h (g.no j d)⟩⟩, ⟨g.nx.f, z1, fun b u eb no => ?_, g.nx.new, fun t => tabs_updG (g.nx.tab t) h1 (soft_nt h2) (soft_code h2)⟩, g.no, g.me, st, fr⟩
  rw [upd_ne fun z => by
    subst z
    obtain ⟨ps, k⟩ := g.fr b hq u eb
    exact no ps k]
  exact g.nx.h _ _ eb no
end
section
variable {X : Cx} {T : List (Addr × Str)} {W : WX} {F0 G : Hp} {i : Nat}
end
end DN
namespace DN
open PySem PySem.Spec PyProof.Rows L2
open LamX (Tabs ExtN)

/-! ### a dict of text keys is read -/
section
variable {X : Cx} {T : List (Addr × Str)} {W : WX} {F0 G : Hp} {i : Nat}
/-! ### an own list of the state is changed -/
/-- the list of the field k -/
theorem Flds.at_ {K : PySem.W.Frag} {F H : Hp} {x : Str} {ws : List V} {ds : List D} {S : List Addr} (h : Flds K F H ws ds S) : S.Nodup → ∀ (ks : List Str), ks.Nodup → ∀ {es : List D}, fget ks ds x = some (.lst es) →
    ∃ a xs, fget ks ws x = some (.ref a) ∧ a ∈ S ∧ H a = some (.lst xs) ∧ RpAll K F xs es ∧ D.imms es = true ∧
      ∀ ys fs, RpAll K F ys fs → D.imms fs = true → Flds K F (upd H a (.lst ys)) ws (fset ks ds x (.lst fs)) S := by
  induction h with
  | nil => intro _ ks _ es e; cases ks <;> cases e
  | @imm v0 d0 vs ds S hi r0 h ih =>
    intro nd ks nk es e
    cases ks with
    | nil => cases e
    | cons k ks =>
      rw [List.nodup_cons] at nk
      have e : (if k = x then some d0 else fget ks ds x) = some (.lst es) := e
      by_cases hk : k = x
      · rw [if_pos hk] at e
        cases e
        unfold D.imm at hi; cases hi
      · rw [if_neg hk] at e
        obtain ⟨a, xs, h1, h2, h3, h4, h5, h6⟩ := ih nd ks nk.2 e
        refine ⟨a, xs, ?_, h2, h3, h4, h5, fun ys fs r hf => ?_⟩
        · show (if k = x then some v0 else fget ks vs x) = _
          rw [if_neg hk]; exact h1
        · show Flds K F _ _ ((if k = x then D.lst fs else d0) :: _) S
          rw [if_neg hk]
          exact .imm hi r0 (h6 ys fs r hf)
  | @lst a xs es0 vs ds S hx r0 hi h ih =>
    intro nd ks nk es e
    have nd' := List.nodup_cons.mp nd
    cases ks with
    | nil => cases e
    | cons k ks =>
      rw [List.nodup_cons] at nk
      have e : (if k = x then some (D.lst es0) else fget ks ds x) = some (.lst es) := e
      by_cases hk : k = x
      · rw [if_pos hk] at e
        cases e
        refine ⟨a, xs, ?_, List.mem_cons_self, hx, r0, hi, fun ys fs r hf => ?_⟩
        · show (if k = x then some (V.ref a) else fget ks vs x) = _
          rw [if_pos hk]
        · show Flds K F _ _ ((if k = x then D.lst fs else D.lst es0) :: fset ks ds x (.lst fs)) (a :: S)
          rw [if_pos hk, fset_out ks ds x _ (by rw [← hk]; exact nk.1)]
          exact .lst upd_same r hf (h.mono (Sub.refl F) fun b hb zs q => by rw [upd_ne fun z => nd'.1 (by rw [← z]; exact hb)]; exact q)
      · rw [if_neg hk] at e
        obtain ⟨b, zs, h1, h2, h3, h4, h5, h6⟩ := ih nd'.2 ks nk.2 e
        refine ⟨b, zs, ?_, List.mem_cons_of_mem _ h2, h3, h4, h5, fun ys fs r hf => ?_⟩
        · show (if k = x then some (V.ref a) else fget ks vs x) = _
          rw [if_neg hk]; exact h1
        · show Flds K F _ _ ((if k = x then D.lst fs else D.lst es0) :: _) (a :: S)
          rw [if_neg hk]
          exact .lst (by rw [upd_ne fun z => nd'.1 (by rw [z]; exact h2)]; exact hx) r0 hi (h6 ys fs r hf)
theorem StAt.at_ {K : PySem.W.Frag} {F H : Hp} {p : Addr} {m : MSt} {S : List Addr} {x : Str} {es : List D} (h : StAt K F H p m S) (e : fget m.1 m.2 x = some (.lst es)) :
    ∃ ws a xs, H p = some (.dK (kvK m.1 ws)) ∧ fget m.1 ws x = some (.ref a) ∧ a ∈ S ∧ H a = some (.lst xs) ∧ RpAll K F xs es ∧ D.imms es = true ∧
      ∀ ys fs, RpAll K F ys fs → D.imms fs = true → StAt K F (upd H a (.lst ys)) p (m.1, fset m.1 m.2 x (.lst fs)) S := by
  obtain ⟨ws, S0, rfl, h1, hl, h2⟩ := h.ex
  have nd := List.nodup_cons.mp h.nd
  obtain ⟨a, xs, k1, k2, k3, k4, k5, k6⟩ := h2.at_ nd.2 m.1 h.nk e
  refine ⟨ws, a, xs, h1, k1, List.mem_cons_of_mem _ k2, k3, k4, k5, fun ys fs r hf => ⟨⟨ws, S0, rfl, ?_, hl, k6 ys fs r hf⟩, h.nd, h.out, h.nk⟩⟩
  rw [upd_ne fun z => nd.1 (by rw [z]; exact k2)]; exact h1
end
end DN
namespace DN
open PySem PySem.Spec PyProof.Rows L2
open LamX (Tabs ExtN)

/-! ### procedures and makers -/
section
variable {K : PySem.W.Frag} {T : List (Addr × Str)} {W : WX} {F0 G F H F1 H1 : Hp} {σ : L2.St} {ρ : Rho} {i : Nat} {p : Addr} {m m' : MSt} {S S' : List Addr} {Z : Ends}
end
section
variable {X : Cx} {T : List (Addr × Str)} {W : WX} {F0 G : Hp} {i : Nat}
end
/-! a def whose body goes over to M-mode: for every address p -/
section
variable {P : Program} {w : World} {K : PySem.W.Frag} {mg : Str → Option Value} {base : Heap} {T : List (Addr × Str)} {k : Nat} {x qual : Str} {params : Arguments} {body : List Stmt} {scope : Scope} {kws : List (Str × V)} {f : Addr} {fd : FuncData} {N ps : List Str} {n i : Nat} {s : Rho → Addr → SM}
end
section
variable {X : Cx} {T : List (Addr × Str)} {W : WX} {F0 H0 : Hp} {i : Nat}
end
end DN
/-! M-mode: for, update, a state made by a display or by dict(pairs); own lists by +, * and by choice -/
namespace DN
open PySem PySem.Spec PyProof.Rows L2
open LamX (Tabs ExtN)

section
variable {X : Cx} {T : List (Addr × Str)} {W : WX} {F0 G : Hp} {i : Nat}
end
/-! ### own lists by + and *, and one of two -/
section
variable {X : Cx} {T : List (Addr × Str)} {W : WX} {F0 G : Hp} {i : Nat}
end
end DN
namespace DN
open PySem PySem.Spec PyProof.Rows L2
open LamX (Tabs ExtN)
section
variable {X : Cx} {T : List (Addr × Str)} {W : WX} {F0 G : Hp} {i : Nat}
theorem aftO.mono {K : PySem.W.Frag} {σ : L2.St} {F H F1 H1 : Hp} {Q : V → Hp → Prop} {r : Res D} (n : Nx T F H F1 H1) (h : aftO K T W σ F H Q r) : aftO K T W σ F1 H1 Q r := by
  cases r with
  | ok d =>
    cases d with
    | lst ds => exact fun p vs F' H' n2 hp hx rx fr => h p vs F' H' (n.trans n2) hp hx rx (back_tbl n.h fr)
    | _ => exact h
  | ex m => exact fun F' H' n2 => h F' H' (n.trans n2)
  | bad => exact h
end
end DN
/-! M-mode: the state's update; a state made by a display -/
namespace DN
open PySem PySem.Spec PyProof.Rows L2
open LamX (Tabs ExtN)
/-! ### a field put, there or not -/
section
variable {K : PySem.W.Frag} {T : List (Addr × Str)} {W : WX} {F0 G F H F1 H1 : Hp} {σ : L2.St} {ρ : Rho} {i : Nat} {p : Addr} {m m' : MSt} {S S' : List Addr} {Z : Ends}
theorem StAt.kvs (h : StAt K F H p m S) : ∃ ws, H p = some (.dK (kvK m.1 ws)) ∧ m.1.length = ws.length := by
  obtain ⟨ws, S0, _, h1, hl, _⟩ := h.ex
  exact ⟨ws, h1, hl⟩
theorem upd_upd {a : Addr} {o o' : HO} : upd (upd H a o) a o' = upd H a o' := by
  funext b
  by_cases e : b = a
  · subst e; rw [upd_same, upd_same]
  · rw [upd_ne e, upd_ne e, upd_ne e]
end
section
variable {X : Cx} {T : List (Addr × Str)} {W : WX} {F0 G : Hp} {i : Nat}
end
/-! ### a state made by a display -/
section
variable {X : Cx} {T : List (Addr × Str)} {W : WX} {F0 G : Hp} {i : Nat}
end
end DN
/-! list(zip(a, b)): every pair that was handed out is still held by the list -/
namespace DN
open PySem PySem.Spec PyProof.Rows L2
open LamX (Tabs ExtN)
namespace LZ
/-- a zip whose pair T is out -/
abbrev Out (h : Heap) (z TI TO T : Addr) (f : Bool) : Prop := h.get? z = some { cls := .type "zip", data := .fields #[rawInt T, .bool f, .bool false, .ref TI, .ref TO] }
section
variable {prog : Program} {w : World} {A : Around} {E : Value → Shared → Prop} {s : Shared} {z TI TO i1 i2 T : Addr} {fp1 fp2 : List Addr} {n1 n2 i : Nat} {P1 P2 : Nat → Value → Prop} {St1 St2 : Nat → Heap → Prop} {a1 a2 : Value} {f : Bool}
/-- the zip's look at its own pair: it is held elsewhere, and the zip marks that -/
theorem own_out {Q : Bool → Shared → Prop} (hz : Out s.heap z TI TO T f) (hT : ∃ o, s.heap.get? T = some o)
    (hQ : ∀ h', Out h' z TI TO T true → Heap.SameBut z s.heap h' → Q false { s with heap := h' }) : wpAny (model prog w) A (Builtin.SmallTypes.ownedTupleIsFree (.ref z)) Q E s :=
  hT.elim fun _ t => PySem.wpAny_tupleHeld_zip hz t hQ
theorem body_out {Q : PySem.Fin → Shared → Prop} (S : ZipSep2 z TI TO i1 i2 fp1 fp2) (D1 : Draws prog w A i1 fp1 n1 P1 St1) (D2 : Draws prog w A i2 fp2 n2 P2 St2) (hz : Out s.heap z TI TO T f) (hT : ∃ o, s.heap.get? T = some o) (hI : IsTupOf2 s.heap TI (.ref i1) (.ref i2)) (st1 : St1 i s.heap) (st2 : St2 i s.heap) (l1 : i < n1) (l2 : i < n2)
    (hQ : ∀ x1 x2 h' tk, P1 i x1 → P2 i x2 → Out h' z TI TO T true → St1 (i + 1) h' → St2 (i + 1) h' → IsTupOf2 h' s.heap.objs.size x1 x2 → (∀ c o, c ≠ z → c ≠ i1 → c ≠ i2 → s.heap.get? c = some o → h'.get? c = some o) → Q (.done (.ret (.ref s.heap.objs.size))) { s with heap := h', toks := tk }) :
    wpAny (model prog w) A (Builtin.«zip.__next__» ⟨[.ref z], []⟩) Q E s := by
  have f2 : ∀ {R : Value → Shared → Prop}, R (.bool false) s → wpAny (model prog w) A (field (.ref z) 2) R E s := fun q => wpAny_field hz rfl rfl q
  have f3 : ∀ {R : Value → Shared → Prop}, R (.ref TI) s → wpAny (model prog w) A (field (.ref z) 3) R E s := fun q => wpAny_field hz rfl rfl q
  unfold Builtin.«zip.__next__»
  wp_walk using f2, f3, wpAny_seqItems hI rfl, own_out hz hT
  intro g0 hz0 b0
  have k1 := D1.over st1 b0 S.zf1
  have k2 := D2.over st2 b0 S.zf2
  have d1 : ∀ {R : Value → Shared → Prop}, (∀ x h' tk, P1 i x → St1 (i + 1) h' → Heap.SameBut i1 g0 h' → R x { s with heap := h', toks := tk }) → wpAny (model prog w) A (Builtin.SmallTypes.nextOf (.ref i1)) R E { s with heap := g0 } := fun k => D1.item i { s with heap := g0 } _ E l1 k1 k
  have d2 : ∀ {R : Value → Shared → Prop} (h : Heap) (tk : Nat), St2 i h → (∀ x h' tk, P2 i x → St2 (i + 1) h' → Heap.SameBut i2 h h' → R x { s with heap := h', toks := tk }) → wpAny (model prog w) A (Builtin.SmallTypes.nextOf (.ref i2)) R E { s with heap := h, toks := tk } :=
    fun h tk k2 k => D2.item i { s with heap := h, toks := tk } _ E l2 k2 k
  simp only [Bool.false_eq_true, if_false, ← Array.forIn_toList, List.forIn_cons, List.forIn_nil]
  wp_walk using d1
  intro x1 g1 t1 y1 m1 b1
  wp_walk using d2 g1 t1 (D2.over k2 b1 S.sep1_2)
  intro x2 g2 t2 y2 m2 b2
  wp_walk using wpAny_newTuple
  case hsz => exact (by decide : 2 ≤ sizeLine)
  have size : g2.objs.size = s.heap.objs.size := b2.1.trans (b1.1.trans b0.1)
  have still : ∀ c o, c ≠ i1 → c ≠ i2 → g0.get? c = some o → (g2.push { cls := .type "tuple", data := .seq #[x1, x2] }).get? c = some o := fun c o c1 c2 e => Heap.get?_push_of_some _ (b2.extBut _ _ c2 (b1.extBut _ _ c1 e))
  have made := Heap.get?_push_size g2 (o := { cls := .type "tuple", data := .seq #[x1, x2] }) rfl
  show Q (.done (.ret (.ref g2.objs.size))) _
  rw [size] at made ⊢
  exact hQ x1 x2 _ t2 y1 y2 (still _ _ S.zi1 S.zi2 hz0) (D1.frame _ _ _ (D1.over m1 b2 S.sep2_1) fun _ _ _ => Heap.get?_push_of_some _) (D2.frame _ _ _ m2 fun _ _ _ => Heap.get?_push_of_some _) made fun c o c0 c1 c2 e => still c o c1 c2 (b0.extBut _ _ c0 e)
/-- one more pair -/
theorem next_out {Q : Option Value → Shared → Prop} (S : ZipSep2 z TI TO i1 i2 fp1 fp2) (D1 : Draws prog w A.in1 i1 fp1 n1 P1 St1) (D2 : Draws prog w A.in1 i2 fp2 n2 P2 St2) (hz : Out s.heap z TI TO T f) (hT : ∃ o, s.heap.get? T = some o) (hI : IsTupOf2 s.heap TI (.ref i1) (.ref i2)) (st1 : St1 i s.heap) (st2 : St2 i s.heap) (l1 : i < n1) (l2 : i < n2)
    (hQ : ∀ x1 x2 h' tk, P1 i x1 → P2 i x2 → Out h' z TI TO T true → St1 (i + 1) h' → St2 (i + 1) h' → IsTupOf2 h' s.heap.objs.size x1 x2 → (∀ c o, c ≠ z → c ≠ i1 → c ≠ i2 → s.heap.get? c = some o → h'.get? c = some o) → Q (some (.ref s.heap.objs.size)) { s with heap := h', toks := tk }) :
    wpAny (model prog w) A (pyNext (.ref z)) Q E s := by
  have ty : s.TypeIs (.ref z) "zip" := ⟨_, hz, rfl⟩
  unfold pyNext
  refine wpAny_bind (wpAny_attempt (wpAny_callSpecial?_slot (name := Str.ofString "__next__") ty F.slot_zip_next (wpAny_call_entry F.slot_zip_next ty F.entry_zip_next
    (body_out S D1 D2 hz hT hI st1 st2 l1 l2 fun x1 x2 h' tk p1 p2 o m1 m2 t k => ⟨_, rfl, wpAny_pure (hQ x1 x2 h' tk p1 p2 o m1 m2 t k)⟩) (F.args_zip_next_1 _))))
/-- one of the two is at its end: the zip hands its end on -/
theorem body_end {Q : PySem.Fin → Shared → Prop} (S : ZipSep2 z TI TO i1 i2 fp1 fp2) (D1 : Draws prog w A i1 fp1 n1 P1 St1) (D2 : Draws prog w A i2 fp2 n2 P2 St2) (hz : Out s.heap z TI TO T f) (hT : ∃ o, s.heap.get? T = some o) (hI : IsTupOf2 s.heap TI (.ref i1) (.ref i2)) (st1 : St1 i s.heap) (st2 : St2 i s.heap) (l1 : i ≤ n1) (l2 : i ≤ n2) (le : i = n1 ∨ i = n2)
    (hE : ∀ (e : Addr) h' tk, (∃ o, h'.get? e = some o ∧ o.cls = .type "StopIteration") → (∀ c o, c ≠ z → c ≠ i1 → c ≠ i2 → s.heap.get? c = some o → h'.get? c = some o) → E (.ref e) { s with heap := h', toks := tk }) :
    wpAny (model prog w) A (Builtin.«zip.__next__» ⟨[.ref z], []⟩) Q E s := by
  have f2 : ∀ {R : Value → Shared → Prop}, R (.bool false) s → wpAny (model prog w) A (field (.ref z) 2) R E s := fun q => wpAny_field hz rfl rfl q
  have f3 : ∀ {R : Value → Shared → Prop}, R (.ref TI) s → wpAny (model prog w) A (field (.ref z) 3) R E s := fun q => wpAny_field hz rfl rfl q
  unfold Builtin.«zip.__next__»
  wp_walk using f2, f3, wpAny_seqItems hI rfl, own_out hz hT
  intro g0 hz0 b0
  have k1 := D1.over st1 b0 S.zf1
  have k2 := D2.over st2 b0 S.zf2
  simp only [Bool.false_eq_true, if_false, ← Array.forIn_toList, List.forIn_cons, List.forIn_nil]
  by_cases last : i = n1
  · have d1 : ∀ {R : Value → Shared → Prop}, wpAny (model prog w) A (Builtin.SmallTypes.nextOf (.ref i1)) R E { s with heap := g0 } :=
      fun {R} => D1.done { s with heap := g0 } R E (last ▸ k1) fun h' e b x => hE e h' s.toks x fun c o c0 c1 _ y => b _ _ c1 (b0.extBut _ _ c0 y)
    wp_walk using d1
  · have d1 : ∀ {R : Value → Shared → Prop}, (∀ x h' tk, P1 i x → St1 (i + 1) h' → Heap.SameBut i1 g0 h' → R x { s with heap := h', toks := tk }) → wpAny (model prog w) A (Builtin.SmallTypes.nextOf (.ref i1)) R E { s with heap := g0 } :=
      fun k => D1.item i { s with heap := g0 } _ E (by omega) k1 k
    wp_walk using d1
    intro x1 g1 t1 y1 m1 b1
    have d2 : ∀ {R : Value → Shared → Prop}, wpAny (model prog w) A (Builtin.SmallTypes.nextOf (.ref i2)) R E { s with heap := g1, toks := t1 } :=
      fun {R} => D2.done { s with heap := g1, toks := t1 } R E (le.resolve_left last ▸ D2.over k2 b1 S.sep1_2) fun h' e b x => hE e h' t1 x fun c o c0 c1 c2 y => b _ _ c2 (b1.extBut _ _ c1 (b0.extBut _ _ c0 y))
    wp_walk using d2
theorem end_out {Q : Option Value → Shared → Prop} (S : ZipSep2 z TI TO i1 i2 fp1 fp2) (D1 : Draws prog w A.in1 i1 fp1 n1 P1 St1) (D2 : Draws prog w A.in1 i2 fp2 n2 P2 St2) (hz : Out s.heap z TI TO T f) (hT : ∃ o, s.heap.get? T = some o) (hI : IsTupOf2 s.heap TI (.ref i1) (.ref i2)) (st1 : St1 i s.heap) (st2 : St2 i s.heap) (l1 : i ≤ n1) (l2 : i ≤ n2) (le : i = n1 ∨ i = n2)
    (hQ : ∀ h' tk, (∀ c o, c ≠ z → c ≠ i1 → c ≠ i2 → s.heap.get? c = some o → h'.get? c = some o) → Q none { s with heap := h', toks := tk }) :
    wpAny (model prog w) A (pyNext (.ref z)) Q E s := by
  have ty : s.TypeIs (.ref z) "zip" := ⟨_, hz, rfl⟩
  unfold pyNext
  refine wpAny_bind (wpAny_attempt (wpAny_callSpecial?_slot (name := Str.ofString "__next__") ty F.slot_zip_next (wpAny_call_entry F.slot_zip_next ty F.entry_zip_next
    (body_end S D1 D2 hz hT hI st1 st2 l1 l2 le fun e h' tk ⟨o, ho, hc⟩ k => ?_) (F.args_zip_next_1 _))))
  exact wpAny_bind (wpAny_isInstance (T := "StopIteration") (b := true) ⟨o, ho, hc⟩ isSubtype_stop (wpAny_pure (hQ h' tk k)))
/-- behind i pairs, which stand at as -/
structure At (z TI TO i1 i2 lo : Addr) (P1 P2 : Nat → Value → Prop) (St1 St2 : Nat → Heap → Prop) (h : Heap) (i : Nat) (as : List Addr) : Prop where
  own : (i = 0 ∧ IsZip h z TI TO .none ∧ ∃ a b, IsTupOf2 h TO a b) ∨ ∃ T f, Out h z TI TO T f ∧ T ∈ as
  ti : IsTupOf2 h TI (.ref i1) (.ref i2)
  s1 : St1 i h
  s2 : St2 i h
  len : as.length = i
  up : as.Pairwise (· < ·)
  lo_le : lo ≤ h.objs.size
  new : ∀ a ∈ as, lo ≤ a
  two : ∀ j a, as[j]? = some a → ∃ x y, IsTupOf2 h a x y ∧ P1 j x ∧ P2 j y
/-- how the cells lie -/
structure Far (z TI TO i1 i2 lo L : Addr) (fp1 fp2 : List Addr) : Prop where
  sep : ZipSep2 z TI TO i1 i2 fp1 fp2
  hz : z < lo
  hti : TI < lo
  hto : TO < lo
  ha : i1 < lo
  hb : i2 < lo
  hl : L < lo
  lz : L ≠ z
  lt : L ≠ TI
  lo_ : L ≠ TO
  l1 : L ∉ fp1
  l2 : L ∉ fp2
theorem At.grow {lo L : Addr} {h h1 h2 : Heap} {as : List Addr} {x y : Value} {T' : Addr} {f' : Bool} (fr : Far z TI TO i1 i2 lo L fp1 fp2) (D1 : Draws prog w A i1 fp1 n1 P1 St1) (D2 : Draws prog w A i2 fp2 n2 P2 St2) (g : At z TI TO i1 i2 lo P1 P2 St1 St2 h i as)
    (k1 : ∀ c o, c ≠ z → c ≠ TO → c ≠ i1 → c ≠ i2 → h.get? c = some o → h1.get? c = some o) (t : IsTupOf2 h1 h.objs.size x y) (o1 : Out h1 z TI TO T' f') (hT' : T' ∈ as ++ [h.objs.size]) (m1 : St1 (i + 1) h1) (m2 : St2 (i + 1) h1) (p1 : P1 i x) (p2 : P2 i y)
    (k2 : ∀ c o, c ≠ L → h1.get? c = some o → h2.get? c = some o) (sz : h1.objs.size ≤ h2.objs.size) : At z TI TO i1 i2 lo P1 P2 St1 St2 h2 (i + 1) (as ++ [h.objs.size]) := by
  have far : ∀ c, lo ≤ c → c ≠ z ∧ c ≠ TO ∧ c ≠ i1 ∧ c ≠ i2 ∧ c ≠ L := fun c hc => ⟨Nat.ne_of_gt (Nat.lt_of_lt_of_le fr.hz hc), Nat.ne_of_gt (Nat.lt_of_lt_of_le fr.hto hc), Nat.ne_of_gt (Nat.lt_of_lt_of_le fr.ha hc), Nat.ne_of_gt (Nat.lt_of_lt_of_le fr.hb hc), Nat.ne_of_gt (Nat.lt_of_lt_of_le fr.hl hc)⟩
  have t2 : IsTupOf2 h2 h.objs.size x y := k2 _ _ (far _ g.lo_le).2.2.2.2 t
  refine ⟨.inr ⟨T', f', k2 _ _ fr.lz.symm o1, hT'⟩, k2 _ _ fr.lt.symm (k1 _ _ fr.sep.TIz fr.sep.TITO fr.sep.TIi1 fr.sep.TIi2 g.ti), D1.frame _ _ _ m1 fun b hb o e => k2 b o (fun q => fr.l1 (q ▸ hb)) e, D2.frame _ _ _ m2 fun b hb o e => k2 b o (fun q => fr.l2 (q ▸ hb)) e, by rw [List.length_append, g.len]; rfl, ?_, ?_, fun a ha => ?_, fun j a hj => ?_⟩
  · refine List.pairwise_append.mpr ⟨g.up, by simp, fun a ha b hb => ?_⟩
    simp at hb
    subst hb
    obtain ⟨j, hj⟩ := List.mem_iff_getElem?.mp ha
    obtain ⟨x, y, q, _⟩ := g.two j a hj
    exact Heap.lt_size q
  · exact Nat.le_trans (Nat.le_of_lt (Nat.lt_of_le_of_lt g.lo_le (Heap.lt_size t))) sz
  · rcases List.mem_append.mp ha with q | q
    · exact g.new a q
    · simp at q; subst q; exact g.lo_le
  · rw [List.getElem?_append] at hj
    split at hj
    · obtain ⟨x', y', q, r⟩ := g.two j a hj
      obtain ⟨c1, c2, c3, c4, c5⟩ := far a (g.new a (List.mem_of_getElem? hj))
      exact ⟨x', y', k2 _ _ c5 (k1 _ _ c1 c2 c3 c4 q), r⟩
    · rename_i hge
      rw [g.len] at hge hj
      have hji : j = i := by
        have := (List.getElem?_eq_some_iff.mp hj).1
        simp at this
        omega
      subst hji
      rw [Nat.sub_self] at hj
      cases hj
      exact ⟨x, y, t2, p1, p2⟩
abbrev lst (xs : List Value) (c : Nat) : Obj := { cls := .type "list", dict := none, data := .seq xs.toArray c, slots := #[] }
theorem loop {R : Result → Shared → Prop} {lo L : Addr} {res : Value} (fr : Far z TI TO i1 i2 lo L fp1 fp2) (D1 : Draws prog w A.in1.in1 i1 fp1 n1 P1 St1) (D2 : Draws prog w A.in1.in1 i2 fp2 n2 P2 St2) (hn : min n1 n2 ≤ sizeLine) :
    ∀ (k i : Nat) (s : Shared) (as : List Addr) (c : Nat), i + k = min n1 n2 → At z TI TO i1 i2 lo P1 P2 St1 St2 s.heap i as → s.heap.get? L = some (lst (as.map .ref) c) →
      (∀ (h' : Heap) (tk : Nat) (bs : List Addr) (c' : Nat), (∀ b o, b < lo → b ≠ z → b ≠ TO → b ≠ i1 → b ≠ i2 → b ≠ L → s.heap.get? b = some o → h'.get? b = some o) → h'.get? L = some (lst (bs.map .ref) c') → bs.length = min n1 n2 → bs.Pairwise (· < ·) → (∀ a ∈ bs, lo ≤ a) →
        (∀ j a, bs[j]? = some a → ∃ x y, IsTupOf2 h' a x y ∧ P1 j x ∧ P2 j y) → R (.ok (.ret res)) { s with heap := h', toks := tk }) →
      codeAny (model prog w) A (.builtin "list.extend.loop" ⟨[.ref L, .ref z, res], []⟩) R s := by
  intro k
  induction k with
  | zero =>
    intro i s as c hk g hL hR
    refine codeAny_builtin F.entry_extend_loop ?_
    rw [Around.under_plainId F.plain_extend_loop _]
    show wpAny _ A.in1 (pyNext (.ref z) >>= _) _ _ s
    have le : i = n1 ∨ i = n2 := by omega
    have fin : ∀ h' tk, (∀ c o, c ≠ z → c ≠ TO → c ≠ i1 → c ≠ i2 → s.heap.get? c = some o → h'.get? c = some o) → R (.ok (.ret res)) { s with heap := h', toks := tk } := fun h' tk kp => by
      refine hR h' tk as c (fun b o _ c1 c2 c3 c4 _ e => kp b o c1 c2 c3 c4 e) (kp _ _ fr.lz fr.lo_ (fun q => fr.l1 (q ▸ fr.sep.mem1)) (fun q => fr.l2 (q ▸ fr.sep.mem2)) hL) (by rw [g.len]; exact hk) g.up g.new fun j a hj => ?_
      obtain ⟨x, y, q, r⟩ := g.two j a hj
      have la := g.new a (List.mem_of_getElem? hj)
      exact ⟨x, y, kp _ _ (Nat.ne_of_gt (Nat.lt_of_lt_of_le fr.hz la)) (Nat.ne_of_gt (Nat.lt_of_lt_of_le fr.hto la)) (Nat.ne_of_gt (Nat.lt_of_lt_of_le fr.ha la)) (Nat.ne_of_gt (Nat.lt_of_lt_of_le fr.hb la)) q, r⟩
    rcases g.own with ⟨_, hz, a, b, ho⟩ | ⟨T, f, hz, hT⟩
    · exact wpAny_bind (wpAny_pyNext_zipD2_end fr.sep D1 D2 hz g.ti ho g.s1 g.s2 (by omega) (by omega) le fun h' tk kp => wpAny_pure (fin h' tk kp))
    · obtain ⟨j, hj⟩ := List.mem_iff_getElem?.mp hT
      obtain ⟨x, y, q, _⟩ := g.two j T hj
      exact wpAny_bind (end_out fr.sep D1 D2 hz ⟨_, q⟩ g.ti g.s1 g.s2 (by omega) (by omega) le fun h' tk kp => wpAny_pure (fin h' tk fun c o c1 _ c3 c4 e => kp c o c1 c3 c4 e))
  | succ k ih =>
    intro i s as c hk g hL hR
    refine codeAny_builtin F.entry_extend_loop ?_
    rw [Around.under_plainId F.plain_extend_loop _]
    show wpAny _ A.in1 (pyNext (.ref z) >>= _) _ _ s
    have go : ∀ (x y : Value) (h1 : Heap) (tk : Nat) (T' : Addr) (f' : Bool), P1 i x → P2 i y → Out h1 z TI TO T' f' → T' ∈ as ++ [s.heap.objs.size] → St1 (i + 1) h1 → St2 (i + 1) h1 → IsTupOf2 h1 s.heap.objs.size x y → (∀ c o, c ≠ z → c ≠ TO → c ≠ i1 → c ≠ i2 → s.heap.get? c = some o → h1.get? c = some o) →
        wpAny (model prog w) A.in1 (updateSeq L (·.push (.ref s.heap.objs.size)) >>= fun _ => again (.builtin "list.extend.loop" ⟨[.ref L, .ref z, res], []⟩))
          (fun fin s' => match fin with | .done f => R (.ok f) s' | .again c' => c'.quiet = true ∧ codeAny (model prog w) A c' R s') (fun e s' => R (.error e) s') { s with heap := h1, toks := tk } := fun x y h1 tk T' f' p1 p2 o1 hT' m1 m2 t kp => by
      have hL1 : h1.get? L = some (lst (as.map .ref) c) := kp _ _ fr.lz fr.lo_ (fun q => fr.l1 (q ▸ fr.sep.mem1)) (fun q => fr.l2 (q ▸ fr.sep.mem2)) hL
      have la : (as.map Value.ref).toArray.size = i := by rw [List.size_toArray, List.length_map, g.len]
      have g2 := g.grow (h2 := h1.update L (Obj.mapSeq (·.push (.ref s.heap.objs.size)))) fr D1 D2 kp t o1 hT' m1 m2 p1 p2 (fun c o hc e => (Heap.get?_update_other _ _ (Ne.symm hc)).trans e) (Nat.le_of_eq (Heap.SameBut.update ..).1.symm)
      refine wpAny_bind (wpAny_updateSeq hL1 rfl (wpAny_pure ⟨plainId_quiet F.plain_extend_loop _, ih (i + 1) _ (as ++ [s.heap.objs.size]) (c + 1) (by omega) g2 ?_ fun h' tk' bs c' q1 q2 q3 q4 q5 q6 => ?_⟩) (by rw [la]; omega) (by rw [Array.size_push, la]; omega))
      · have := Heap.get?_update_self (Obj.mapSeq (·.push (Value.ref s.heap.objs.size))) hL1 rfl
        rw [this]
        simp [Obj.mapSeq]
      · refine hR h' tk' bs c' (fun b o b0 b1 b2 b3 b4 b5 e => q1 b o b0 b1 b2 b3 b4 b5 ((Heap.get?_update_other _ _ (Ne.symm b5)).trans (kp b o b1 b2 b3 b4 e))) q2 q3 q4 q5 q6
    rcases g.own with ⟨i0, hz, a, b, ho⟩ | ⟨T, f, hz, hT⟩
    · exact wpAny_bind (wpAny_pyNext_zipD2_item fr.sep D1 D2 hz g.ti ho g.s1 g.s2 (by omega) (by omega) fun x y h1 tk p1 p2 o1 _ m1 m2 t _ kp => go x y h1 tk _ false p1 p2 o1 (by simp) m1 m2 t kp)
    · obtain ⟨j, hj⟩ := List.mem_iff_getElem?.mp hT
      obtain ⟨x, y, q, _⟩ := g.two j T hj
      exact wpAny_bind (next_out fr.sep D1 D2 hz ⟨_, q⟩ g.ti g.s1 g.s2 (by omega) (by omega) fun x y h1 tk p1 p2 o1 m1 m2 t kp => go x y h1 tk _ true p1 p2 o1 (List.mem_append_left _ hT) m1 m2 t fun c o c1 _ c3 c4 e => kp c o c1 c3 c4 e)
/-- a list's cell is written twice and stands as before -/
theorem touch {L : Addr} {xs : List Value} {c : Nat} {Q : Unit → Shared → Prop} (hL : s.heap.get? L = some (lst xs c)) (hx : xs.length + 1 ≤ sizeLine) (hQ : ∀ h' c', h'.get? L = some (lst xs c') → Heap.SameBut L s.heap h' → Q () { s with heap := h' }) : wpAny (model prog w) A (Builtin.List.listTouch (.ref L)) Q E s := by
  show wpAny _ _ (updateSeq L (·.push .none) >>= fun _ => updateSeq L (·.pop)) _ _ s
  refine wpAny_bind (wpAny_updateSeq hL rfl ?_ (by rw [List.size_toArray]; omega) (by rw [Array.size_push, List.size_toArray]; omega))
  have h1 := Heap.get?_update_self (Obj.mapSeq (·.push Value.none)) hL rfl
  have e1 : Obj.mapSeq (·.push Value.none) (lst xs c) = lst (xs ++ [.none]) (c + 1) := by simp [Obj.mapSeq]
  rw [e1] at h1
  refine wpAny_updateSeq h1 rfl (hQ _ (c + 2) ?_ ⟨(Heap.SameBut.update ..).1.trans (Heap.SameBut.update ..).1, fun b hb => ?_⟩) (by rw [List.size_toArray, List.length_append]; simp; omega) (by rw [Array.size_pop, List.size_toArray, List.length_append]; simp; omega)
  · rw [Heap.get?_update_self (Obj.mapSeq (·.pop)) h1 rfl]
    simp [Obj.mapSeq]
  · rw [Heap.get?_update_other _ _ (Ne.symm hb), Heap.get?_update_other _ _ (Ne.symm hb)]
end
end LZ
end DN
/-! list(zip(a, b)) and dict(pairs) by data -/
namespace DN
open PySem PySem.Spec PyProof.Rows L2
open LamX (Tabs ExtN)
section
variable {X : Cx} {T : List (Addr × Str)} {W : WX}
def Pr (H : Hp) : List Addr → List (V × V) → Prop := Paired fun t q => H t = some (.tup [q.1, q.2])
end
/-! ### by data -/
theorem Nx.many {T : List (Addr × Str)} {F H H' : Hp} {N : List Addr} (z : Fz F H) (kp : ∀ b o, H b = some o → H' b = some o) (hn : ∀ a ∈ N, H a = none) (hs : ∀ a ∈ N, ∃ o, H' a = some o ∧ ∀ ps, o ≠ .tbl ps) : Nx T F H (fun a => if a ∈ N then H' a else F a) H' := by
  refine ⟨fun a o e => ?_, ⟨fun a o e => ?_, fun a ps e => ?_⟩, fun b u e _ => kp b u e, fun a o e => ?_, fun t => t.ext fun b u e => kp b u e⟩
  · have : a ∉ N := fun q => by have := z.sub _ _ e; rw [hn a q] at this; cases this
    show (if a ∈ N then H' a else F a) = some o
    rw [if_neg this]; exact e
  · have e : (if a ∈ N then H' a else F a) = some o := e
    split at e
    · exact e
    · exact kp _ _ (z.sub _ _ e)
  · have e : (if a ∈ N then H' a else F a) = some (.tbl ps) := e
    split at e
    · rename_i q
      obtain ⟨o, h1, h2⟩ := hs a q
      rw [h1] at e
      exact h2 ps (Option.some.inj e)
    · exact z.nt _ _ e
  · have e : (if a ∈ N then H' a else F a) = some o := e
    split at e
    · rename_i q
      exact .inr fun o' e' => by rw [hn a q] at e'; cases e'
    · exact .inl e
theorem Pr.all {H' : Hp} : ∀ {ts : List Addr} {qs : List (V × V)}, Pr H' ts qs → ∀ t ∈ ts, ∃ vs, H' t = some (.tup vs)
  | _, _, .nil, t, h => by cases h
  | _, _, .cons h1 h2, t, h => by
    rcases List.mem_cons.mp h with e | e
    · rw [e]; exact ⟨_, h1⟩
    · exact Pr.all h2 t e
section
variable {X : Cx} {T : List (Addr × Str)} {W : WX} {F0 G : Hp} {i : Nat}
end
/-! ### dict(pairs) -/
section
variable {X : Cx} {T : List (Addr × Str)} {W : WX} {F0 G : Hp} {i : Nat}
end
end DN
/-! M-mode where a token is out -/
namespace DN
open PySem PySem.Spec PyProof.Rows L2
open LamX (Tabs ExtN)
section
variable {X : Cx} {T : List (Addr × Str)} {W : WX} {F0 G : Hp} {i : Nat}
end
/-! x = e (lent), then f(state, .. x ..) -/
section
variable {X : Cx} {T : List (Addr × Str)} {W : WX} {F0 G : Hp} {i : Nat}
end
end DN
/-! a law whose body goes over to M-mode; evaluating M-mode -/
namespace DN
open PySem PySem.Spec PyProof.Rows L2
open LamX (Tabs ExtN)
/-! ### evaluating -/
section
variable {i n : Nat} {ρ : Rho} {m : MSt} {p : Addr}
end
end DN
/-! a tuple taken once, or not at all -/
namespace DN
open PySem PySem.Spec PyProof.Rows L2
open LamX (Tabs ExtN)
section
variable {X : Cx} {T : List (Addr × Str)} {W : WX}
end
end DN
/-! enumerate of a tuple -/
namespace DN
open PySem PySem.Spec PyProof.Rows L2
/-! .. as data -/
open LamX (Tabs ExtN)
section
variable {X : Cx} {T : List (Addr × Str)} {W : WX}
end
end DN
/-! a lambda with one parameter, handed to a def: within the call it belongs to the base -/
namespace DN
open PySem PySem.Spec PyProof.Rows L2
open LamX (Tabs ExtN CodeO TabB)
open NdefX (NF NScope CellsAt Caps envF ncx startF)

/-! ### a part of a heap -/
open Classical in
noncomputable def only (h : Heap) (S : Addr → Prop) : Heap := ⟨h.objs.mapIdx fun i o => if S i then o else { o with data := .freed }, h.life⟩
/-! ### less is frozen -/
def Most (F G : Hp) : Prop := ∀ a o, F a = some o → (∀ φ, o ≠ .ext φ) → G a = some o
theorem Most.rd {F G : Hp} (m : Most F G) {a : Addr} {u : HO} (hu : ∀ φ, u ≠ .ext φ) (h : Rd F a u) : Rd G a u := by
  rcases h with h | ⟨o, h⟩
  · exact .inl (m _ _ h hu)
  · exact .inr ⟨o, m _ _ h fun φ z => by cases z⟩
mutual
theorem Rp.less {K : PySem.W.Frag} {F G : Hp} (m : Most F G) : ∀ {v : V} {d : D}, Rp K F v d → Rp K G v d
  | _, _, .non => .non
  | _, _, .bl b => .bl b
  | _, _, .int i => .int i
  | _, _, .str x => .str x
  | _, _, .fn x => .fn x
  | _, _, .ty n => .ty n
  | _, _, .lst h t => .lst (m _ _ h fun φ z => by cases z) (RpAll.less m t)
  | _, _, .tup h t => .tup (h.elim (fun h => .inl (m.rd (fun φ z => by cases z) h)) .inr) (RpAll.less m t)
  | _, _, .dK h => .dK (m _ _ h fun φ z => by cases z)
  | _, _, .dT ⟨od, h⟩ => .dT ⟨od, m _ _ h fun φ z => by cases z⟩
  | _, _, .arr h => .arr (h.elim (fun h => .inl (m.rd (fun φ z => by cases z) h)) .inr)
  | _, _, .pro ⟨o, h1, h2, h3⟩ => .pro ⟨o, h1, h2, m _ _ h3 fun φ z => by cases z⟩
  | _, _, .adr a => .adr a
  | _, _, .tab h1 h2 h3 t => .tab h1 (m _ _ h2 fun φ z => by cases z) h3 (RpAll.less m t)
  | _, _, .pw h => .pw (m _ _ h fun φ z => by cases z)
  | _, _, .frm ⟨o, h1, h2, h3⟩ t => .frm ⟨o, h1, h2, m _ _ h3 fun φ z => by cases z⟩ (RpAll.less m t)
theorem RpAll.less {K : PySem.W.Frag} {F G : Hp} (m : Most F G) : ∀ {vs : List V} {ds : List D}, RpAll K F vs ds → RpAll K G vs ds
  | _, _, .nil => .nil
  | _, _, .cons h t => .cons (Rp.less m h) (RpAll.less m t)
end
/-! ### the lambda in the base -/
structure LamB (base : Heap) (f c : Addr) (q : Str) (params : Arguments) (body : Expr) (scope : Scope) (cl : List (Str × Addr)) (y : Str) (n : Int) : Prop where
  fn : ∃ pm ctv, base.get? f = some (PySem.W.kla_obj "<lambda>" q params body scope cl pm c ctv)
  code : base.CodeRec (.ref c) q
  cells : ∀ z a, cl.lookup z = some a → ∃ v, base.IsCell a v
  inj : ∀ z z' a, cl.lookup z = some a → cl.lookup z' = some a → z = z'
  val : ∃ a t, cl.lookup y = some a ∧ base.IsCell a (some (.int n t))
theorem LamB.at {base h : Heap} {H : Hp} {f c : Addr} {q : Str} {params : Arguments} {body : Expr} {scope : Scope} {cl : List (Str × Addr)} {y : Str} {n : Int} (B : LamB base f c q params body scope cl y n) (k : ∀ b o, base.get? b = some o → h.get? b = some o ∧ H b = none) :
    CellsAt cl [y] [some (.int n)] h H := by
  refine ⟨rfl, fun z a e => ?_, B.inj, fun i z e => ?_⟩
  · obtain ⟨v, o, ho, hd⟩ := B.cells z a e
    exact ⟨(k _ _ ho).2, v, o, (k _ _ ho).1, hd⟩
  · cases i with
    | zero =>
      cases e
      obtain ⟨a, t, e1, o, ho, hd⟩ := B.val
      refine ⟨a, e1, fun v hv => ?_⟩
      cases hv
      exact ⟨.int n t, ⟨t, rfl⟩, o, (k _ _ ho).1, hd⟩
    | succ i => simp at e
/-! ### the call that hands it over -/
def both (F F' : Hp) : Hp := fun b => match F b with
  | some o => some o
  | none => F' b
section
variable {K : PySem.W.Frag} {P0 : Program} {w : World} {q : Str} {F H H1 H' F' : Hp} {c P : Addr} {h h' : Heap}
end
end DN
/-! R-mode: one slot holds a reader (an instance with the fields text, at), which calls change -/
namespace DN
open PySem PySem.Spec PyProof.Rows L2
open LamX (Tabs ExtN)

abbrev RSt := Str × Int
inductive RR (α : Type) where
  | ok (a : α) (m : RSt) | ex (n : Str) | bad
def RR.bind {α β : Type} : RR α → (α → RSt → RR β) → RR β
  | .ok a m, f => f a m
  | .ex n, _ => .ex n
  | .bad, _ => .bad
def rdO (K : PySem.W.Frag) (dx : Addr) (m : RSt) : HO := .ins (He.ga K "Reader") dx [("text", .str m.1), ("at", .int m.2)]
def RdAt (K : PySem.W.Frag) (H : Hp) (p : Addr) (m : RSt) : Prop := ∃ dx, H p = some (rdO K dx m)
theorem rdO_nt {K : PySem.W.Frag} {dx : Addr} {m : RSt} : ∀ ps, rdO K dx m ≠ .tbl ps := fun ps z => by unfold rdO at z; cases z
theorem rdO_tup {K : PySem.W.Frag} {dx : Addr} {m : RSt} : ∀ xs, rdO K dx m ≠ .tup xs := fun ps z => by unfold rdO at z; cases z
/-- H without p -/
def mask (H : Hp) (p : Addr) : Hp := fun b => if b = p then none else H b
theorem mask_of {H : Hp} {p b : Addr} (h : b ≠ p) : mask H p b = H b := if_neg h
structure Rg (K : PySem.W.Frag) (T : List (Addr × Str)) (F0 G F H : Hp) (σ : L2.St) (ρ : Rho) (i : Nat) (p : Addr) (m : RSt) : Prop where
  at_ : At K T F H σ ρ
  nx : Nx T F0 G F H
  no : ∀ (j : Nat) (d : D), ρ[j]? ≠ some (En.o d)
  me : σ[i]? = some (some (.ref p))
  st : RdAt K H p m
  fF : F p = none
  fG : ∀ o, G p = some o → ∃ ps, o = .tbl ps
def aftR {α β : Type} (R : Hp → α → β → Prop) (K : PySem.W.Frag) (T : List (Addr × Str)) (E : XK) (F0 G F : Hp) (i : Nat) (σ : L2.St) (ρ : Rho) (p : Addr) (Q : α → Hp → Prop) : RR β → Prop
  | .ok b m => ∀ a F' H', Rg K T F0 G F' H' σ ρ i p m → Sub F F' → R F' a b → Q a H'
  | .ex n => ∀ F' H', Nx T F0 G F' H' → Tabs T H' → Sub F F' → E (.ref (He.ga K n)) none H'
  | .bad => False
section
variable {K : PySem.W.Frag} {T : List (Addr × Str)} {E : XK} {F0 G F H F1 H1 : Hp} {σ : L2.St} {ρ : Rho} {i : Nat} {p : Addr} {m : RSt}
theorem Rg.step (g : Rg K T F0 G F H σ ρ i p m) (n : Nx T F H F1 H1) : Rg K T F0 G F1 H1 σ ρ i p m := by
  obtain ⟨dx, h⟩ := g.st
  exact ⟨g.at_.nx n, g.nx.trans n, g.no, g.me, ⟨dx, n.keep h rdO_nt⟩, n.out h rdO_nt g.fF rdO_tup, g.fG⟩
theorem aftR.mono {α β : Type} {R : Hp → α → β → Prop} {Q : α → Hp → Prop} {r : RR β} (e : Sub F F1) (h : aftR R K T E F0 G F i σ ρ p Q r) : aftR R K T E F0 G F1 i σ ρ p Q r := by
  cases r with
  | ok b m => exact fun a F' H' g s => h a F' H' g (e.trans s)
  | ex n => exact fun F' H' g t s => h F' H' g t (e.trans s)
  | bad => exact h
theorem aftR.bind {α β γ δ : Type} {R : Hp → α → β → Prop} {S : Hp → γ → δ → Prop} {Q : γ → Hp → Prop} {r : RR β} {k : β → RSt → RR δ} (h : aftR S K T E F0 G F i σ ρ p Q (r.bind k)) :
    aftR R K T E F0 G F i σ ρ p (fun a H1 => ∃ b m1 F1, Sub F F1 ∧ Rg K T F0 G F1 H1 σ ρ i p m1 ∧ R F1 a b ∧ aftR S K T E F0 G F1 i σ ρ p Q (k b m1)) r := by
  cases r with
  | ok b m => exact fun a F2 H2 g s ra => ⟨b, m, F2, s, g, ra, aftR.mono s h⟩
  | ex n => exact h
  | bad => exact h
theorem aftR.imp {α β : Type} {R : Hp → α → β → Prop} {Q Q' : α → Hp → Prop} {r : RR β} (h : aftR R K T E F0 G F i σ ρ p Q r) (hq : ∀ a H', Q a H' → Q' a H') : aftR R K T E F0 G F i σ ρ p Q' r := by
  cases r with
  | ok b m => exact fun a F' H' g s ra => hq a H' (h a F' H' g s ra)
  | ex n => exact h
  | bad => exact h
end
section
variable {X : Cx} {T : List (Addr × Str)} {E : XK} {F0 G : Hp} {i : Nat}
end
/-! ### statements -/
inductive SRR where
  | nx (ρ : Rho) (m : RSt) | rt (d : D) (m : RSt) | ex (n : Str) | bad
def bindRS {α : Type} (r : RR α) (k : α → RSt → SRR) : SRR := match r with
  | .ok a m => k a m
  | .ex n => .ex n
  | .bad => .bad
def aftRS (K : PySem.W.Frag) (T : List (Addr × Str)) (E : XK) (F0 G F : Hp) (i : Nat) (p : Addr) (Z : Ends) : SRR → Prop
  | .nx ρ m => ∀ σ F' H', Rg K T F0 G F' H' σ ρ i p m → Sub F F' → Z.nx σ H'
  | .rt d m => ∀ v F' H', Nx T F0 G F' H' → RdAt K H' p m → F' p = none → Rp K F' v d → Z.rt v H'
  | .ex n => ∀ F' H', Nx T F0 G F' H' → Tabs T H' → Sub F F' → E (.ref (He.ga K n)) none H'
  | .bad => False
section
variable {K : PySem.W.Frag} {T : List (Addr × Str)} {E : XK} {F0 G F H F1 H1 : Hp} {σ : L2.St} {ρ : Rho} {i : Nat} {p : Addr} {m : RSt} {Z : Ends}
theorem aftRS.mono {r : SRR} (e : Sub F F1) (h : aftRS K T E F0 G F i p Z r) : aftRS K T E F0 G F1 i p Z r := by
  cases r with
  | nx ρ m => exact fun σ F' H' g s => h σ F' H' g (e.trans s)
  | rt d m => exact h
  | ex n => exact fun F' H' g t s => h F' H' g t (e.trans s)
  | bad => exact h
theorem aftRS.bind {α β : Type} {R : Hp → α → β → Prop} {r : RR β} {k : β → RSt → SRR} (h : aftRS K T E F0 G F i p Z (bindRS r k)) :
    aftR R K T E F0 G F i σ ρ p (fun a H1 => ∃ b m1 F1, Sub F F1 ∧ Rg K T F0 G F1 H1 σ ρ i p m1 ∧ R F1 a b ∧ aftRS K T E F0 G F1 i p Z (k b m1)) r := by
  cases r with
  | ok b m => exact fun a F2 H2 g s ra => ⟨b, m, F2, s, g, ra, aftRS.mono s h⟩
  | ex n => exact h
  | bad => exact h
end
section
variable {X : Cx} {T : List (Addr × Str)} {E : XK} {F0 G : Hp} {i : Nat}
theorem Rg.put {K : PySem.W.Frag} {F H : Hp} {σ : L2.St} {ρ : Rho} {p : Addr} {m : RSt} {j : Nat} {v : V} {d : D} (g : Rg K T F0 G F H σ ρ i p m) (hj : j ≠ i) (r : Rp K F v d) : Rg K T F0 G F H (σ.set j (some v)) (ρ.set j (.z d)) i p m := by
  refine ⟨⟨g.at_.z, g.at_.t, g.at_.r.set r⟩, g.nx, fun k d' e => ?_, ?_, g.st, g.fF, g.fG⟩
  · rw [List.getElem?_set] at e
    split at e
    · split at e <;> cases e
    · exact g.no k d' e
  · rw [List.getElem?_set, if_neg hj]
    exact g.me
/-! self.at = e -/
theorem rdO_code {K : PySem.W.Frag} {dx a : Addr} {m : RSt} : ∀ q, rdO K dx m ≠ LamX.CodeO a q := fun q z => by unfold rdO LamX.CodeO at z; cases z
end
/-! ### methods -/
section
variable {K : PySem.W.Frag} {T : List (Addr × Str)} {E : XK} {F0 G F H F1 H1 : Hp} {σ : L2.St} {ρ : Rho} {i : Nat} {p : Addr} {m : RSt}
theorem mask_tabs (h : RdAt K H p m) (t : Tabs T H) : Tabs T (mask H p) := fun q hq => by
  obtain ⟨dx, h⟩ := h
  obtain ⟨ps, k1, k2, k3⟩ := t q hq
  refine ⟨ps, by rw [mask_of fun z => by rw [z, h] at k1; exact rdO_nt ps (Option.some.inj k1)]; exact k1, k2, fun pos cv hc => ?_⟩
  obtain ⟨c, e1, e2⟩ := k3 pos cv hc
  exact ⟨c, e1, by rw [mask_of fun z => by rw [z, h] at e2; exact rdO_code _ (Option.some.inj e2)]; exact e2⟩
/-- a call's changes behind what was there -/
theorem Nx.over (n1 : Nx T F0 G F H) (fG : ∀ o, G p = some o → ∃ ps, o = .tbl ps) (st : RdAt K H p m) (n2 : Nx T F (mask H p) F1 H1) : Nx T F0 G F1 H1 := by
  refine ⟨n1.f.trans n2.f, n2.z, fun b o e nt => ?_, fun a o e => ?_, fun t => n2.tab (mask_tabs st (n1.tab t))⟩
  · refine n2.h b o ?_ nt
    rw [mask_of fun z => by
      rw [z] at e
      obtain ⟨ps, w⟩ := fG o e
      exact nt ps w]
    exact n1.h b o e nt
  · rcases n2.new a o e with q | q
    · exact n1.new a o q
    · refine .inr fun o' e' => ?_
      by_cases w : ∃ ps, o' = .tbl ps
      · exact .inl w
      · refine q o' ?_
        rw [mask_of fun z => by
          rw [z] at e'
          exact w (fG o' e')]
        exact n1.h a o' e' fun ps z => w ⟨ps, z⟩
end
section
variable {X : Cx} {T : List (Addr × Str)} {E : XK} {F0 G : Hp} {i : Nat}
end
/-! ### a new reader -/
section
variable {X : Cx} {T : List (Addr × Str)} {E : XK} {F0 H0 : Hp}
end
end DN
/-! books: dicts whose keys are tuples of ints -/
namespace DN
open PySem PySem.Spec PyProof.Rows L2
open LamX (Tabs ExtN)
def kI (ks : List Int) : List Key := ks.map Sum.inl
def intsOf : List Key → Option (List Int)
  | [] => some []
  | .inl i :: r => (intsOf r).map fun l => i :: l
  | _ => none
def vInt : V → Option D
  | .int i => some (.int i)
  | _ => none
def getT : D → D → Option D
  | .dT kvs, .pw ks => (valV kvs (kI ks)).bind vInt
  | _, _ => none
section
variable {X : Cx} {T : List (Addr × Str)} {W : WX} {F0 H0 : Hp}
/-! ### the frame's own -/
theorem ntTd {kvs : List (List Key × V)} : ∀ ps, HO.dT kvs ≠ .tbl ps := fun ps z => by cases z
theorem dT_code {kvs : List (List Key × V)} {a : Addr} : ∀ q, HO.dT kvs ≠ LamX.CodeO a q := fun q z => by unfold LamX.CodeO at z; cases z
/-! ### made fast: from here on it is not changed -/
theorem OwnAt.sub {K : PySem.W.Frag} {F F' H : Hp} {p : Addr} (e : Sub F F') : ∀ {d : D}, OwnAt K F H p d → OwnAt K F' H p d
  | .lst _, ⟨xs, h, r⟩ => ⟨xs, h, r.mono e⟩
  | .dK _, h => h
  | .dT _, h => h
  | .dic _ _ _ _, ⟨es, h, r⟩ => ⟨es, h, r.mono e⟩
  | .ins _ _ _, ⟨dx, ws, h, r⟩ => ⟨dx, ws, h, r.mono e⟩
theorem Sg.fast {K : PySem.W.Frag} {F H : Hp} {σ : L2.St} {ρ : Rho} {i : Nat} {p : Addr} {kvs : List (List Key × V)} {od : Obj} (g : Sg K T F0 H0 F H σ ρ) (hi : ρ[i]? = some (.o (.dT kvs))) (hs : σ[i]? = some (some (.ref p))) (hp : F p = none) (hx : H p = some (.dT kvs)) :
    Sg K T F0 H0 (upd F p (.frz od (.dT kvs))) (upd H p (.frz od (.dT kvs))) σ (ρ.set i (.z (.dT kvs))) ∧ Sub F (upd F p (.frz od (.dT kvs))) := by
  have il : i < ρ.length := (List.getElem?_eq_some_iff.mp hi).1
  have ow := g.ow i _ p hi hs
  have sb : Sub F (upd F p (.frz od (.dT kvs))) := fun a o e => by rw [upd_ne fun z => by rw [z, hp] at e; cases e]; exact e
  have z1 : Fz (upd F p (.frz od (.dT kvs))) (upd H p (.frz od (.dT kvs))) := ⟨fun a o e => by
    by_cases ha : a = p
    · subst ha; rw [upd_same] at e ⊢; exact e
    · rw [upd_ne ha] at e ⊢; exact g.at_.z.sub _ _ e, fun a ps e => by
    by_cases ha : a = p
    · subst ha; rw [upd_same] at e; cases e
    · rw [upd_ne ha] at e; exact g.at_.z.nt _ _ e⟩
  refine ⟨⟨⟨z1, tabs_updG g.at_.t hx ntTd dT_code, ?_⟩, ⟨g.nx.f.trans sb, z1, fun b o eb no => ?_, fun a o e => ?_, fun t => tabs_updG (g.nx.tab t) hx ntTd dT_code⟩, fun j e q h1 h2 => ?_⟩, sb⟩
  · refine ⟨by rw [List.length_set]; exact g.at_.r.len, fun j e hj => ?_, fun j e hj => ?_, fun j k a b q1 q2 hn h1 h2 h3 h4 => ?_⟩
    · rw [List.getElem?_set] at hj
      by_cases hij : i = j
      · subst hij
        rw [if_pos rfl, if_pos il] at hj
        cases hj
        exact ⟨_, hs, .dT ⟨od, upd_same⟩⟩
      · rw [if_neg hij] at hj
        obtain ⟨v, e1, e2⟩ := g.at_.r.z j e hj
        exact ⟨v, e1, e2.mono sb⟩
    · rw [List.getElem?_set] at hj
      by_cases hij : i = j
      · subst hij
        rw [if_pos rfl, if_pos il] at hj
        cases hj
      · rw [if_neg hij] at hj
        obtain ⟨q, h1, h2, h3⟩ := g.at_.r.o j e hj
        have hne : p ≠ q := g.at_.r.ne i j _ _ p q hij hi hj hs h1
        exact ⟨q, h1, by rw [upd_ne (Ne.symm hne)]; exact h2, (h3.updN (Ne.symm hne)).sub sb⟩
    · have o1 : ∀ j e, (ρ.set i (.z (.dT kvs)))[j]? = some (En.o e) → ρ[j]? = some (En.o e) := fun j e h => by
        rw [List.getElem?_set] at h
        by_cases hij : i = j
        · subst hij
          rw [if_pos rfl, if_pos il] at h
          cases h
        · rw [if_neg hij] at h; exact h
      exact g.at_.r.ne j k a b q1 q2 hn (o1 j a h1) (o1 k b h2) h3 h4
  · rw [upd_ne fun z => by
      subst z
      obtain ⟨ps, k⟩ := ow o eb
      exact no ps k]
    exact g.nx.h _ _ eb no
  · by_cases ha : a = p
    · subst ha
      exact .inr fun o' e' => .inl (ow o' e')
    · rw [upd_ne ha] at e
      exact g.nx.new a o e
  · rw [List.getElem?_set] at h1
    by_cases hij : i = j
    · subst hij
      rw [if_pos rfl, if_pos il] at h1
      cases h1
    · rw [if_neg hij] at h1
      exact g.ow j e q h1 h2
end
end DN
/-! tuples of ints whose object is known: how they come to be, and how that is forgotten -/
namespace DN
open PySem PySem.Spec PyProof.Rows L2
open LamX (Tabs ExtN)
section
variable {X : Cx} {T : List (Addr × Str)} {W : WX}
end
end DN
/-! {k: v} with one key, a tuple of ints: a frozen book -/
namespace L2
open PySem PySem.Spec PyProof.Rows
end L2
namespace DN
open PySem PySem.Spec PyProof.Rows L2
open LamX (Tabs ExtN)
end DN
/-! dict(book): the keys' hashes are apart -/
namespace L2
open PySem PySem.Spec PyProof.Rows
def keyHashI (ks : List Int) : Int := reduceHash (Builtin.Tuple.tupleHashOf (ks.map hashInt))
end L2
namespace DN
open PySem PySem.Spec PyProof.Rows L2
open LamX (Tabs ExtN)
def keysI : List (List Key × V) → Option (List (List Int))
  | [] => some []
  | q :: r => (intsOf q.1).bind fun l => (keysI r).map fun ls => l :: ls
/-- the keys hash apart -/
def apart (kvs : List (List Key × V)) : Bool := match keysI kvs with
  | some ls => decide ((ls.map keyHashI).Nodup)
  | none => false
section
variable {X : Cx} {T : List (Addr × Str)} {W : WX} {F0 H0 : Hp}
end
end DN
/-! book == {} -/
namespace L2
open PySem PySem.Spec PyProof.Rows
end L2
namespace DN
open PySem PySem.Spec PyProof.Rows L2
open LamX (Tabs ExtN)
end DN
/-! sorted(book.items()) -/
namespace L2
open PySem PySem.Spec PyProof.Rows PySem.W
/-- a book's entries -/
abbrev Ent := List Int × Int
section
variable {X : Cx}
end
end L2
namespace L2
open PySem PySem.Spec PyProof.Rows
end L2
namespace DN
open PySem PySem.Spec PyProof.Rows L2
open LamX (Tabs ExtN)
def vNum : V → Option Int
  | .int n => some n
  | _ => none
def ents : List (List Key × V) → Option (List Ent)
  | [] => some []
  | q :: r => (intsOf q.1).bind fun l => (vNum q.2).bind fun n => (ents r).map fun es => (l, n) :: es
section
variable {X : Cx} {T : List (Addr × Str)} {W : WX}
end
end DN
/-! tuple(sorted(..)) with its object known; dict of such a tuple -/
namespace L2
open PySem PySem.Spec PyProof.Rows PySem.W
end L2
namespace DN
open PySem PySem.Spec PyProof.Rows L2
open LamX (Tabs ExtN)
section
variable {X : Cx} {T : List (Addr × Str)} {W : WX}
end
end DN
namespace DN
open PySem PySem.Spec PyProof.Rows L2 PySem.W
open LamX (Tabs ExtN)
end DN
namespace DN
end DN
/-! is, is not of two truths -/
namespace DN
open PySem PySem.Spec PyProof.Rows L2
end DN
/-! a tuple times any small number: none and once by DN42, more by DN1 -/
namespace DN
open PySem PySem.Spec PyProof.Rows L2
end DN
namespace LW
open PySem PySem.Spec PyProof.Rows L2 DN
open TL (numL numL_lt numL_step numL_digits numL_ne tl_num)

/-! ### figures of whole numbers -/
def figs (n : Nat) : Nat := (numL n).length
theorem figs_small {n : Nat} (h : n < 10) : figs n = 1 := by unfold figs; rw [numL_lt h]; rfl
theorem figs_step {n : Nat} (h : 10 ≤ n) : figs n = figs (n / 10) + 1 := by unfold figs; rw [numL_step h, List.length_append]; rfl
theorem figs_pos (n : Nat) : 1 ≤ figs n := by
  by_cases h : n < 10
  · rw [figs_small h]; exact Nat.le_refl 1
  · rw [figs_step (by omega)]; omega
theorem figs_lt : ∀ (n : Nat), n < 10 ^ figs n := fun n => by
  induction n using Nat.strongRecOn with
  | ind n ih =>
    by_cases h : n < 10
    · rw [figs_small h]; omega
    · have := ih (n / 10) (by omega)
      rw [figs_step (by omega), Nat.pow_succ]
      omega
theorem figs_ge : ∀ (n : Nat), 0 < n → 10 ^ (figs n - 1) ≤ n := fun n => by
  induction n using Nat.strongRecOn with
  | ind n ih =>
    intro h0
    by_cases h : n < 10
    · rw [figs_small h]
      show 10 ^ 0 ≤ n
      have : (10 : Nat) ^ 0 = 1 := rfl
      omega
    · have := ih (n / 10) (by omega) (by omega)
      rw [figs_step (by omega)]
      have h2 := figs_pos (n / 10)
      have e : figs (n / 10) + 1 - 1 = (figs (n / 10) - 1) + 1 := by omega
      rw [e, Nat.pow_succ]
      omega
theorem pow10_le {a b : Nat} (h : a ≤ b) : 10 ^ a ≤ 10 ^ b := Nat.pow_le_pow_right (by decide) h
theorem pow10_pos (a : Nat) : 0 < 10 ^ a := Nat.pow_pos (by decide)
theorem figs_le {n k : Nat} (hk : 1 ≤ k) (h : n < 10 ^ k) : figs n ≤ k := by
  by_cases h0 : n = 0
  · subst h0; rw [figs_small (by decide)]; exact hk
  · have h1 := figs_ge n (by omega)
    have h2 := figs_pos n
    by_cases hc : figs n ≤ k
    · exact hc
    · exfalso
      have := pow10_le (show k ≤ figs n - 1 by omega)
      omega
theorem str_tl (n : Nat) : (Str.ofString (toString (n : Int))).cps.toList = numL n := tl_num n
theorem str_tl_int {i : Int} (h : 0 ≤ i) : (Str.ofString (toString i)).cps.toList = numL i.natAbs := by
  obtain ⟨n, rfl⟩ : ∃ n : Nat, i = n := ⟨i.natAbs, by omega⟩
  rw [str_tl]; rfl
theorem str_len {i : Int} (h : 0 ≤ i) : (Str.ofString (toString i)).length = figs i.natAbs := by
  show (Str.ofString (toString i)).cps.size = _
  rw [← Array.length_toList, str_tl_int h]; rfl
theorem abs_if (i : Int) : (if i < 0 then -i else i) = (i.natAbs : Int) := by split <;> omega
/-- len(str(n)) -/
theorem lenstr {i : Int} (h : 0 ≤ i) (h2 : i.natAbs < 10 ^ 500) : strD [.int i] = some (.str (Str.ofString (toString i))) ∧ lenD [.str (Str.ofString (toString i))] = some (.int (figs i.natAbs)) := by
  have hp : (10 : Nat) ^ 500 < 2 ^ 1900 := by decide +kernel
  refine ⟨str_i (Nat.lt_trans h2 hp), ?_⟩
  rw [len_s, str_len h]
  rw [str_len h]
  have := figs_le (by decide) h2
  omega
end LW
namespace LW
open PySem PySem.Spec PyProof.Rows L2 DN
open TL (numL numL_lt numL_step numL_digits numL_ne tl_num)
/-! ### texts -/
theorem s_len (x : Str) : x.length = x.cps.toList.length := (Array.length_toList).symm
theorem app_tl (a b : Str) : (a ++ b).cps.toList = a.cps.toList ++ b.cps.toList := by
  show (a.cps ++ b.cps).toList = _
  simp
theorem repS_one (c : Nat) (k : Int) : (repS ⟨#[c]⟩ k).cps.toList = List.replicate k.toNat c := by
  unfold repS
  show ((List.replicate k.toNat [c]).flatten).toArray.toList = _
  rw [List.toList_toArray]
  induction k.toNat with
  | zero => rfl
  | succ n ih => rw [List.replicate_succ, List.flatten_cons, ih]; rfl
theorem one_s (c : Nat) (s : String) (h : Str.ofString s = ⟨#[c]⟩) (k : Int) : (repS (Str.ofString s) k).cps.toList = List.replicate k.toNat c := by rw [h]; exact repS_one c k
theorem mul_si {x : Str} {n : Int} (h : n ≤ 1000000 ∧ -1000000 ≤ n ∧ x.length * n.toNat ≤ 1000000) : mulD (.str x) (.int n) = some (.str (repS x n)) := by
  show (if n ≤ 1000000 ∧ -1000000 ≤ n ∧ x.length * n.toNat ≤ 1000000 then some (D.str (repS x n)) else none) = _
  rw [if_pos h]
/-- one sign so often -/
theorem mul_one {s : String} {n : Int} (c : Nat) (h : Str.ofString s = ⟨#[c]⟩) (h1 : n ≤ 1000000) (h2 : -1000000 ≤ n) : mulD (.str (Str.ofString s)) (.int n) = some (.str (repS (Str.ofString s) n)) := mul_si ⟨h1, h2, by
  rw [h]
  show 1 * n.toNat ≤ 1000000
  omega⟩
theorem add_ss {x y : Str} (h : x.length + y.length ≤ 1000000) : addD (.str x) (.str y) = some (.str (x ++ y)) := by
  show (if x.length + y.length ≤ sizeLine then some (D.str (x ++ y)) else none) = _
  rw [if_pos (by rw [sizeLine_eq]; omega)]
end LW
namespace LW
open PySem PySem.Spec PyProof.Rows L2 DN
open TL (numL numL_lt numL_step numL_digits numL_ne tl_num)
/-! ### numbers' texts -/
def S (l : List Nat) : Str := ⟨l.toArray⟩
theorem zero_s : Str.ofString "0" = ⟨#[48]⟩ := by decide +kernel
end LW
namespace LW
open PySem PySem.Spec PyProof.Rows L2 DN
/-! ### rounding, plainly -/
inductive Hw where | nought | more | even | away
  deriving DecidableEq
inductive Mn where | even | away | nought | up | down
  deriving DecidableEq
def Hw.s : Hw → Str
  | .nought => "nought" | .more => "more" | .even => "even" | .away => "away"
def Mn.s : Mn → Str
  | .nought => "nought" | .up => "up" | .down => "down" | .even => "even" | .away => "away"
def Mn.by : Mn → Bool → Hw
  | .up, false => .more | .up, true => .nought | .down, false => .nought | .down, true => .more | .even, _ => .even | .away, _ => .away | .nought, _ => .nought
def takenZ (h : Hw) (q r l : Int) : Int := if r = 0 then q else match h with
  | .nought => q
  | .more => q + 1
  | .even => if 2 * r = l then q + (if q % 2 = 1 then 1 else 0) else q + (if l < 2 * r then 1 else 0)
  | .away => if 2 * r = l then q + 1 else q + (if l < 2 * r then 1 else 0)
def strip : Nat → Int → Int → Int × Int
  | 0, a, b => (a, b)
  | n + 1, a, b => if a % 10 = 0 then strip n (a / 10) (b + 1) else (a, b)
def sgZ (bl : Bool) : Int := 1 - 2 * (if bl = true then 1 else 0)
def hgZ (s : Int × Int) : Int := s.2 + (figs s.1.natAbs : Int) - 1
def fitZ (h : Hw) (w p : Int) (bl : Bool) : Option (Int × Int) :=
  if 40 < hgZ (strip 5000 w p) then none else if hgZ (strip 5000 w p) < -40 then (if h = .more then some (sgZ bl, -40) else some (0, 0)) else some (sgZ bl * (strip 5000 w p).1, (strip 5000 w p).2)
def pw0 (U L : Nat) : Int := (figs U : Int) - (figs L : Int) - 8
def pwN (U L : Nat) : Int := if L * 10 ^ (pw0 U L).toNat * 10 ^ 8 ≤ U * 10 ^ (-(pw0 U L)).toNat then pw0 U L + 1 else pw0 U L
def exZ (m : Mn) (u l : Int) : Option (Int × Int) :=
  if u = 0 then some (0, 0) else
    let p := pwN u.natAbs l.natAbs
    let U : Int := (u.natAbs : Int) * 10 ^ (-p).toNat
    let L : Int := (l.natAbs : Int) * 10 ^ p.toNat
    let bl := decide (u < 0) != decide (l < 0)
    fitZ (m.by bl) (takenZ (m.by bl) (U / L) (U % L) L) p bl
theorem pow_add10 (a b : Nat) : (10 : Nat) ^ a * 10 ^ b = 10 ^ (a + b) := (Nat.pow_add 10 a b).symm
theorem pw_hi {U L : Nat} {p : Int} (hL : 0 < L) (hp : p = pw0 U L + 1) : U * 10 ^ (-p).toNat < L * 10 ^ p.toNat * 10 ^ 8 := by
  have h1 := figs_lt U
  have h2 := figs_ge L hL
  have h3 := figs_pos L
  unfold pw0 at hp
  have e : figs U + (-p).toNat = (figs L - 1) + p.toNat + 8 := by omega
  have a1 : U * 10 ^ (-p).toNat < 10 ^ figs U * 10 ^ (-p).toNat := Nat.mul_lt_mul_of_pos_right h1 (pow10_pos _)
  have a2 : 10 ^ (figs L - 1) * 10 ^ p.toNat * 10 ^ 8 ≤ L * 10 ^ p.toNat * 10 ^ 8 := Nat.mul_le_mul_right _ (Nat.mul_le_mul_right _ h2)
  rw [pow_add10, e] at a1
  rw [pow_add10, pow_add10] at a2
  omega
theorem pw_lo {U L : Nat} {p : Int} (hU : 0 < U) (hp : p = pw0 U L) : L * 10 ^ (p.toNat + 7) ≤ U * 10 ^ (-p).toNat := by
  have h1 := figs_lt L
  have h2 := figs_ge U hU
  have h3 := figs_pos U
  unfold pw0 at hp
  have e : (figs U - 1) + (-p).toNat = figs L + (p.toNat + 7) := by omega
  have a1 : L * 10 ^ (p.toNat + 7) < 10 ^ figs L * 10 ^ (p.toNat + 7) := Nat.mul_lt_mul_of_pos_right h1 (pow10_pos _)
  have a2 : 10 ^ (figs U - 1) * 10 ^ (-p).toNat ≤ U * 10 ^ (-p).toNat := Nat.mul_le_mul_right _ h2
  rw [pow_add10] at a1
  rw [pow_add10, e] at a2
  omega
theorem pw_same {U L : Nat} {p : Int} : (U * 10 ^ (-(p + 1)).toNat < L * 10 ^ ((p + 1).toNat + 7)) ↔ ¬ L * 10 ^ p.toNat * 10 ^ 8 ≤ U * 10 ^ (-p).toNat := by
  rw [Nat.not_le]
  by_cases h : 0 ≤ p
  · have e1 : (-(p + 1)).toNat = 0 := by omega
    have e2 : (-p).toNat = 0 := by omega
    have e3 : (p + 1).toNat + 7 = p.toNat + 8 := by omega
    rw [e1, e2, e3, Nat.pow_add, Nat.mul_assoc]
  · have e1 : (-p).toNat = (-(p + 1)).toNat + 1 := by omega
    have e2 : p.toNat = 0 := by omega
    have e3 : (p + 1).toNat + 7 = 7 := by omega
    have e4 : (10 : Nat) ^ ((-(p + 1)).toNat + 1) = 10 ^ (-(p + 1)).toNat * 10 := Nat.pow_succ _ _
    rw [e1, e2, e3, e4]
    generalize (10 : Nat) ^ (-(p + 1)).toNat = x
    have : U * (x * 10) = U * x * 10 := by rw [Nat.mul_assoc]
    rw [this]
    generalize U * x = y
    omega
theorem pw_low {U L : Nat} (hU : 0 < U) (hL : 0 < L) : L * 10 ^ (pwN U L).toNat * 10 ^ 7 ≤ U * 10 ^ (-(pwN U L)).toNat ∧ U * 10 ^ (-(pwN U L)).toNat < L * 10 ^ (pwN U L).toNat * 10 ^ 8 := by
  unfold pwN
  by_cases h : L * 10 ^ (pw0 U L).toNat * 10 ^ 8 ≤ U * 10 ^ (-(pw0 U L)).toNat
  · rw [if_pos h]
    refine ⟨?_, pw_hi hL rfl⟩
    have := (Decidable.not_iff_not.mpr (pw_same (U := U) (L := L) (p := pw0 U L))).mpr (fun z => z h)
    rw [Nat.not_lt, Nat.pow_add, ← Nat.mul_assoc] at this
    exact this
  · rw [if_neg h]
    have := pw_lo (L := L) hU rfl
    rw [Nat.pow_add, ← Nat.mul_assoc] at this
    exact ⟨this, by omega⟩
/-! the parts -/
theorem strip_neg : ∀ (n : Nat) (a b : Int), strip n (-a) b = (-(strip n a b).1, (strip n a b).2)
  | 0, _, _ => rfl
  | n + 1, a, b => by
    unfold strip
    by_cases h : a % 10 = 0
    · have e : -a / 10 = -(a / 10) := by omega
      rw [if_pos h, if_pos (by omega), e, strip_neg n]
    · rw [if_neg h, if_neg (by omega)]
theorem strip_pos : ∀ (n : Nat) (a b : Int), 0 < a → 0 < (strip n a b).1 ∧ (strip n a b).1 ≤ a ∧ b ≤ (strip n a b).2 ∧ (strip n a b).2 ≤ b + n
  | 0, a, b, h => ⟨h, Int.le_refl a, Int.le_refl b, by show b ≤ b + (0 : Nat); omega⟩
  | n + 1, a, b, h => by
    unfold strip
    by_cases h0 : a % 10 = 0
    · rw [if_pos h0]
      obtain ⟨h1, h2, h3, h4⟩ := strip_pos n (a / 10) (b + 1) (by omega)
      exact ⟨h1, by omega, by omega, by omega⟩
    · rw [if_neg h0]
      exact ⟨h, Int.le_refl a, Int.le_refl b, by show b ≤ b + ((n + 1 : Nat) : Int); omega⟩
theorem natAbs_mul_pow {u : Int} {n k : Nat} (h : u.natAbs < 10 ^ k) : (u * 10 ^ n).natAbs < 10 ^ (k + n) := by
  have e : ((10 : Int) ^ n).natAbs = 10 ^ n := by rw [Int.natAbs_pow]; rfl
  rw [Int.natAbs_mul, e, Nat.pow_add]
  exact Nat.mul_lt_mul_of_pos_right h (pow10_pos n)
theorem pow_z (n : Nat) : ((10 : Int) ^ n).natAbs = 10 ^ n := by rw [Int.natAbs_pow]; rfl
theorem mul_z {i j : Int} (h1 : i.natAbs < 10 ^ 2000) (h2 : j.natAbs < 10 ^ 2000) : mulD (.int i) (.int j) = some (.int (i * j)) := by
  have p : (10 : Nat) ^ 2000 ≤ 2 ^ 100000 := by decide +kernel
  exact mul_w (Nat.lt_of_lt_of_le h1 p) (Nat.lt_of_lt_of_le h2 p)
theorem div_z {i j : Int} (h : 0 < j) (h2 : j.natAbs < 10 ^ 2000) : divD (.int i) (.int j) = some (.int (i / j)) := by
  have p : (10 : Nat) ^ 2000 ≤ 2 ^ 8000 := by decide +kernel
  exact div_w h (Nat.lt_of_lt_of_le h2 p)
theorem mul_t {u : Int} {n : Nat} (h : u.natAbs < 10 ^ 1000) (hn : n ≤ 900) : mulD (.int u) (.int (10 ^ n)) = some (.int (u * 10 ^ n)) :=
  mul_z (Nat.lt_of_lt_of_le h (pow10_le (by decide))) (by rw [pow_z]; exact Nat.pow_lt_pow_right (by decide) (by omega))
theorem maxz (x : Int) : (if (0 : Int) > x then 0 else x) = (x.toNat : Int) := by split <;> omega
theorem pow_ge1 (n : Nat) : (1 : Int) ≤ 10 ^ n := by
  have : (0 : Int) < 10 ^ n := Int.pow_pos (by decide)
  omega
end LW
namespace LW
open PySem PySem.Spec PyProof.Rows L2 DN
/-! ### rounding over the fractions -/
def T (p : Int) : Rat := (10 : Rat) ^ p
/-! stripped -/
def NumOk (a b : Int) : Prop := (a = 0 ∧ b = 0) ∨ (a ≠ 0 ∧ a % 10 ≠ 0 ∧ a.natAbs < 10 ^ 8 ∧ -40 ≤ b + (figs a.natAbs : Int) - 1 ∧ b + (figs a.natAbs : Int) - 1 ≤ 40)
/-! the rounded value -/
theorem NumOk.neg {a b : Int} (h : NumOk a b) : NumOk (-a) b := by
  unfold NumOk at *
  rw [Int.natAbs_neg]
  omega
theorem NumOk.sg {a b : Int} (h : NumOk a b) (bl : Bool) : NumOk (sgZ bl * a) b := by
  cases bl with
  | false => rw [show sgZ false = 1 from rfl, Int.one_mul]; exact h
  | true => rw [show sgZ true = -1 from rfl, Int.neg_one_mul]; exact h.neg
/-! ### laws of rounding -/
/-! numbers are kept -/
/-! down and up -/
/-! as functions of the value -/
end LW
namespace LW
open PySem PySem.Spec PyProof.Rows L2 DN
/-! ### a sign sought in a text -/
end LW
namespace LW
open PySem PySem.Spec PyProof.Rows L2 DN
open TL (numL numL_lt numL_step numL_digits numL_ne tl_num)
open NumText (AllDigits digitsVal)
local macro_rules | `(tactic| walk_at "ev") => `(tactic| simp -implicitDefEqProofs (disch := first | omega | (simp only [List.length_cons, List.length_nil]; omega)) only [mkTR_ok, mkLR_ok, ix_tm, ix_lm, ix_t0, ix_t1, ix_t2, ix_t3, ix_t4, ix_t5, ix_t6, ix_t7, ix_l0, ix_l1, ix_l2, ix_l3, ix_l4, ix_l5, ix_l6, ix_l7, bin_def, una_def, cal_def, acons_def, anil_def, con_def, callD_def, tst_def, sseq_def, sret_def, sasg_def, sif_def, sskip_def, sraise_def, andQ_def, orQ_def, notQ_def, andE_def, orE_def, notE_def, mkT_def, mkL_def, slc_def, psm_def, pno_def, sfor_def, chn_def, var_zero, var_succ, app2_ok, app1_ok, appL_ok, consR_ok, ofO_some, call0, call1, call2, call3, call4, call5, tstR_ok, seqR_nx, seqR_rt, seqR_ex, retR_ok, retR_ex, asgR_n, asgR_ex, asgR_2, asgR_2L, asgR_3, ifR_t, ifR_f, finR_rt, finR_nx, finR_ex, andR_t, andR_f, orR_t, orR_f, notR_ok, andER_t, andER_f, orER_t, orER_f, notER_ok, psmR_ok, slcR_ok, forR_ok, chn_le, chn_lt, add_ii, sub_ii, neg_i, lt_ii, le_ii, gt_ii, ge_ii, eq_ii, ne_ii, eq_ss, ne_ss, eq_bb, ne_bb, mul_l, mul_r, div_s, mod_p, len_t, len_l, len_a, abs_i, max_ii, min_ii, int_i, int_b, int_t, int_f, List.set_cons_zero, List.set_cons_succ, Bool.not_true, Bool.not_false, decide_true, decide_false, sown_def, ownRR_ok, frz_lst, frz_z, frz_u, frz_succ, sfrz_def, bor_def, borQ_def, flat_i, flat_s, flat_b, flat_n, own_zero, own_succ, sapp_def, sput_def, ixO_def])
local macro_rules | `(tactic| simp?! [$ls,*]) => `(tactic| simp -implicitDefEqProofs (disch := first | omega | (simp only [List.length_cons, List.length_nil]; omega)) only [mkTR_ok, mkLR_ok, ix_tm, ix_lm, ix_t0, ix_t1, ix_t2, ix_t3, ix_t4, ix_t5, ix_t6, ix_t7, ix_l0, ix_l1, ix_l2, ix_l3, ix_l4, ix_l5, ix_l6, ix_l7, bin_def, una_def, cal_def, acons_def, anil_def, con_def, callD_def, tst_def, sseq_def, sret_def, sasg_def, sif_def, sskip_def, sraise_def, andQ_def, orQ_def, notQ_def, andE_def, orE_def, notE_def, mkT_def, mkL_def, slc_def, psm_def, pno_def, sfor_def, chn_def, var_zero, var_succ, app2_ok, app1_ok, appL_ok, consR_ok, ofO_some, call0, call1, call2, call3, call4, call5, tstR_ok, seqR_nx, seqR_rt, seqR_ex, retR_ok, retR_ex, asgR_n, asgR_ex, asgR_2, asgR_2L, asgR_3, ifR_t, ifR_f, finR_rt, finR_nx, finR_ex, andR_t, andR_f, orR_t, orR_f, notR_ok, andER_t, andER_f, orER_t, orER_f, notER_ok, psmR_ok, slcR_ok, forR_ok, chn_le, chn_lt, add_ii, sub_ii, neg_i, lt_ii, le_ii, gt_ii, ge_ii, eq_ii, ne_ii, eq_ss, ne_ss, eq_bb, ne_bb, mul_l, mul_r, div_s, mod_p, len_t, len_l, len_a, abs_i, max_ii, min_ii, int_i, int_b, int_t, int_f, List.set_cons_zero, List.set_cons_succ, Bool.not_true, Bool.not_false, decide_true, decide_false, sown_def, ownRR_ok, frz_lst, frz_z, frz_u, frz_succ, sfrz_def, bor_def, borQ_def, flat_i, flat_s, flat_b, flat_n, own_zero, own_succ, sapp_def, sput_def, ixO_def, $ls,*])
def N_ten : List Str := ["power"]
def g_ten : Rho → SR :=
  (sret (cal intD (acons (bop addD (con (.str "1")) (bop mulD (con (.str "0")) (var 0))) anil)))
def d_ten (ds : List D) : Res D := runB 1 g_ten ds
theorem v_ten {a0 : D} : d_ten [a0] = finR (g_ten [.z a0]) := runB_eq rfl
def N_figures_of : List Str := ["whole"]
def g_figures_of : Rho → SR :=
  (sret (cal lenD (acons (cal strD (acons (cal absD (acons (var 0) anil)) anil)) anil)))
def d_figures_of (ds : List D) : Res D := runB 1 g_figures_of ds
theorem v_figures_of {a0 : D} : d_figures_of [a0] = finR (g_figures_of [.z a0]) := runB_eq rfl
def N_height : List Str := ["number"]
def g_height : Rho → SR :=
  (sret (bop subD (bop addD (bop ixD (var 0) (con (.int 1))) (callD 1 d_figures_of (acons (bop ixD (var 0) (con (.int 0))) anil))) (con (.int 1))))
def d_height (ds : List D) : Res D := runB 1 g_height ds
theorem v_height {a0 : D} : d_height [a0] = finR (g_height [.z a0]) := runB_eq rfl
def N__law_cell_at : List Str := ["script", "k"]
def t1__law_cell_at : Rho → SR :=
  (sret (con (.int 0)))
def g__law_cell_at : Rho → SR :=
  sseq (sif (tst (bop ltD (var 1) (cal lenD (acons (var 0) anil)))) (sret (bop ixD (var 0) (var 1))) sskip) (t1__law_cell_at)
def d__law_cell_at (ds : List D) : Res D := runB 2 g__law_cell_at ds
theorem v__law_cell_at {a0 a1 : D} : d__law_cell_at [a0, a1] = finR (g__law_cell_at [.z a0, .z a1]) := runB_eq rfl
def N__law_mixed : List Str := ["script", "k", "drawn"]
def t1__law_mixed : Rho → SR :=
  (sret (bop modD (bop addD (bop addD (bop mulD (var 2) (var 2)) (bop mulD (con (.int 7)) (var 2))) (var 1)) (con (.int 2147483629))))
def g__law_mixed : Rho → SR :=
  sseq (sasg (bop modD (bop mulD (bop addD (bop addD (callD 2 d__law_cell_at (acons (var 0) (acons (var 1) anil))) (bop mulD (con (.int 7919)) (var 1))) (con (.int 1))) (con (.int 48271))) (con (.int 2147483647))) (gn 2)) (t1__law_mixed)
def d__law_mixed (ds : List D) : Res D := runB 3 g__law_mixed ds
theorem v__law_mixed {a0 a1 : D} : d__law_mixed [a0, a1] = finR (g__law_mixed [.z a0, .z a1, .u]) := runB_eq rfl
def N__law_drawn : List Str := ["number", "k", "drawn"]
def t1__law_drawn : Rho → SR :=
  (sret (bop modD (bop addD (bop addD (bop mulD (var 2) (var 2)) (bop mulD (con (.int 3)) (var 2))) (var 1)) (con (.int 2147483629))))
def g__law_drawn : Rho → SR :=
  sseq (sasg (bop modD (bop mulD (bop addD (bop addD (var 0) (bop mulD (con (.int 104729)) (var 1))) (con (.int 17))) (con (.int 69621))) (con (.int 2147483647))) (gn 2)) (t1__law_drawn)
def d__law_drawn (ds : List D) : Res D := runB 3 g__law_drawn ds
theorem v__law_drawn {a0 a1 : D} : d__law_drawn [a0, a1] = finR (g__law_drawn [.z a0, .z a1, .u]) := runB_eq rfl
def N__law_height : List Str := ["number"]
def g__law_height : Rho → SR :=
  (sret (bop subD (bop addD (bop ixD (var 0) (con (.int 1))) (cal lenD (acons (cal strD (acons (cal absD (acons (bop ixD (var 0) (con (.int 0))) anil)) anil)) anil))) (con (.int 1))))
def d__law_height (ds : List D) : Res D := runB 1 g__law_height ds
theorem v__law_height {a0 : D} : d__law_height [a0] = finR (g__law_height [.z a0]) := runB_eq rfl
def N__law_tidy : List Str := ["digits", "power"]
def c1__law_tidy : Rho → Res Bool :=
  (tst (bop eqD (bop modD (var 0) (con (.int 10))) (con (.int 0))))
def b2__law_tidy : Rho → SR :=
  (sseq (sasg (bop divD (var 0) (con (.int 10))) (gn 0))
    (sasg (bop addD (var 1) (con (.int 1))) (gn 1)))
def t2__law_tidy : Rho → SR :=
  (sret (mkT (acons (var 0) (acons (var 1) anil))))
def t1__law_tidy : Rho → SR :=
  sseq (whileD c1__law_tidy b2__law_tidy 100000) (t2__law_tidy)
def g__law_tidy : Rho → SR :=
  sseq (sif (tst (bop eqD (var 0) (con (.int 0)))) (sret (mkT (acons (con (.int 0)) (acons (con (.int 0)) anil)))) sskip) (t1__law_tidy)
def d__law_tidy (ds : List D) : Res D := runB 2 g__law_tidy ds
theorem v__law_tidy {a0 a1 : D} : d__law_tidy [a0, a1] = finR (g__law_tidy [.z a0, .z a1]) := runB_eq rfl
def N__law_number : List Str := ["number", "high", "digits", "drawn", "power", "many"]
def t7__law_number : Rho → SR :=
  (sret (mkT (acons (bop mulD (var 2) (bop subD (con (.int 1)) (bop mulD (bop modD (bop divD (var 3) (con (.int 8))) (con (.int 2))) (con (.int 2))))) (acons (var 4) anil))))
def t6__law_number : Rho → SR :=
  sseq (sasg (bop mulD (cal maxD (acons (bop subD (una negD (con (.int 40))) (var 5)) (acons (cal minD (acons (var 4) (acons (bop subD (con (.int 40)) (var 5)) anil))) anil))) (cal intD (acons (bop gtD (var 2) (con (.int 0))) anil))) (gn 4)) (t7__law_number)
def t5__law_number : Rho → SR :=
  sseq (sasg (bop subD (cal lenD (acons (cal strD (acons (var 2) anil)) anil)) (con (.int 1))) (gn 5)) (t6__law_number)
def t4__law_number : Rho → SR :=
  sseq (sasg (callD 2 d__law_tidy (acons (var 2) (acons (var 4) anil))) (gt 2 (gsc (gn 2) (gsc (gn 4) gsn)))) (t5__law_number)
def t3__law_number : Rho → SR :=
  sseq (sasg (bop ixD (mkT (acons (con (.int 0)) (acons (con (.int 0)) (acons (una negD (con (.int 1))) (acons (una negD (con (.int 2))) (acons (con (.int 3)) (acons (una negD (con (.int 7))) (acons (bop subD (bop modD (bop divD (var 3) (con (.int 64))) (con (.int 81))) (con (.int 40))) (acons (bop subD (bop modD (bop divD (var 3) (con (.int 64))) (con (.int 17))) (con (.int 8))) anil))))))))) (bop modD (var 3) (con (.int 8)))) (gn 4)) (t4__law_number)
def t2__law_number : Rho → SR :=
  sseq (sasg (bop divD (callD 2 d__law_drawn (acons (var 0) (acons (con (.int 1)) anil))) (con (.int 4))) (gn 3)) (t3__law_number)
def t1__law_number : Rho → SR :=
  sseq (sasg (bop modD (bop divD (var 0) (con (.int 8))) (var 1)) (gn 2)) (t2__law_number)
def g__law_number : Rho → SR :=
  sseq (sasg (bop ixD (mkT (acons (con (.int 10)) (acons (con (.int 100)) (acons (con (.int 1000)) (acons (con (.int 100000)) (acons (con (.int 100000000)) (acons (con (.int 3)) (acons (con (.int 100000000)) (acons (con (.int 10)) anil))))))))) (bop modD (var 0) (con (.int 8)))) (gn 1)) (t1__law_number)
def d__law_number (ds : List D) : Res D := runB 6 g__law_number ds
theorem v__law_number {a0 : D} : d__law_number [a0] = finR (g__law_number [.z a0, .u, .u, .u, .u, .u]) := runB_eq rfl
def N_taken : List Str := ["whole", "rest", "lower", "manner"]
def t3_taken : Rho → SR :=
  (sret (bop addD (var 0) (cal intD (acons (bop gtD (bop mulD (con (.int 2)) (var 1)) (var 2)) anil))))
def t2_taken : Rho → SR :=
  sseq (sif (tst (bop eqD (bop mulD (con (.int 2)) (var 1)) (var 2))) (sret (bop addD (var 0) (cal intD (acons (orE (bop eqD (var 3) (con (.str "away"))) (bop eqD (bop modD (var 0) (con (.int 2))) (con (.int 1)))) anil)))) sskip) (t3_taken)
def t1_taken : Rho → SR :=
  sseq (sif (tst (bop eqD (var 3) (con (.str "more")))) (sret (bop addD (var 0) (con (.int 1)))) sskip) (t2_taken)
def g_taken : Rho → SR :=
  sseq (sif (orQ (tst (bop eqD (var 1) (con (.int 0)))) (tst (bop eqD (var 3) (con (.str "nought"))))) (sret (var 0)) sskip) (t1_taken)
def d_taken (ds : List D) : Res D := runB 4 g_taken ds
theorem v_taken {a0 a1 a2 a3 : D} : d_taken [a0, a1, a2, a3] = finR (g_taken [.z a0, .z a1, .z a2, .z a3]) := runB_eq rfl
def N_by_size : List Str := ["manner", "below"]
def t2_by_size : Rho → SR :=
  (sret (var 0))
def t1_by_size : Rho → SR :=
  sseq (sif (tst (bop eqD (var 0) (con (.str "down")))) (sret (bop ixD (mkL (acons (con (.str "nought")) (acons (con (.str "more")) anil))) (cal intD (acons (var 1) anil)))) sskip) (t2_by_size)
def g_by_size : Rho → SR :=
  sseq (sif (tst (bop eqD (var 0) (con (.str "up")))) (sret (bop ixD (mkL (acons (con (.str "more")) (acons (con (.str "nought")) anil))) (cal intD (acons (var 1) anil)))) sskip) (t1_by_size)
def d_by_size (ds : List D) : Res D := runB 2 g_by_size ds
theorem v_by_size {a0 a1 : D} : d_by_size [a0, a1] = finR (g_by_size [.z a0, .z a1]) := runB_eq rfl
def N_fitted : List Str := ["whole", "power", "below", "manner", "sign"]
def c1_fitted : Rho → Res Bool :=
  (tst (bop eqD (bop modD (var 0) (con (.int 10))) (con (.int 0))))
def b2_fitted : Rho → SR :=
  (sseq (sasg (bop divD (var 0) (con (.int 10))) (gn 0))
    (sasg (bop addD (var 1) (con (.int 1))) (gn 1)))
def t5_fitted : Rho → SR :=
  (sret (mkT (acons (bop mulD (var 4) (var 0)) (acons (var 1) anil))))
def t4_fitted : Rho → SR :=
  sseq (sif (tst (bop ltD (callD 1 d_height (acons (mkT (acons (var 0) (acons (var 1) anil))) anil)) (una negD (con (.int 40))))) (sseq (sif (tst (bop eqD (var 3) (con (.str "more")))) (sret (mkT (acons (var 4) (acons (una negD (con (.int 40))) anil)))) sskip)
    (sret (mkT (acons (con (.int 0)) (acons (con (.int 0)) anil))))) sskip) (t5_fitted)
def t3_fitted : Rho → SR :=
  sseq (sif (tst (bop gtD (callD 1 d_height (acons (mkT (acons (var 0) (acons (var 1) anil))) anil)) (con (.int 40)))) (sraise "TooGreat") sskip) (t4_fitted)
def t2_fitted : Rho → SR :=
  sseq (sasg (bop subD (con (.int 1)) (bop mulD (con (.int 2)) (cal intD (acons (var 2) anil)))) (gn 4)) (t3_fitted)
def t1_fitted : Rho → SR :=
  sseq (whileD c1_fitted b2_fitted 100000) (t2_fitted)
def g_fitted : Rho → SR :=
  sseq (sif (tst (bop eqD (var 0) (con (.int 0)))) (sret (mkT (acons (con (.int 0)) (acons (con (.int 0)) anil)))) sskip) (t1_fitted)
def d_fitted (ds : List D) : Res D := runB 5 g_fitted ds
theorem v_fitted {a0 a1 a2 a3 : D} : d_fitted [a0, a1, a2, a3] = finR (g_fitted [.z a0, .z a1, .z a2, .z a3, .u]) := runB_eq rfl
def N_power_for : List Str := ["upper", "lower", "power"]
def c1_power_for : Rho → Res Bool :=
  (tst (bop geD (bop mulD (var 0) (callD 1 d_ten (acons (cal maxD (acons (una negD (var 2)) (acons (con (.int 0)) anil))) anil))) (bop mulD (bop mulD (var 1) (callD 1 d_ten (acons (cal maxD (acons (var 2) (acons (con (.int 0)) anil))) anil))) (callD 1 d_ten (acons (con (.int 8)) anil)))))
def b2_power_for : Rho → SR :=
  (sasg (bop addD (var 2) (con (.int 1))) (gn 2))
def t2_power_for : Rho → SR :=
  (sret (var 2))
def t1_power_for : Rho → SR :=
  sseq (whileD c1_power_for b2_power_for 100000) (t2_power_for)
def g_power_for : Rho → SR :=
  sseq (sasg (bop subD (bop subD (callD 1 d_figures_of (acons (var 0) anil)) (callD 1 d_figures_of (acons (var 1) anil))) (con (.int 8))) (gn 2)) (t1_power_for)
def d_power_for (ds : List D) : Res D := runB 3 g_power_for ds
theorem v_power_for {a0 a1 : D} : d_power_for [a0, a1] = finR (g_power_for [.z a0, .z a1, .u]) := runB_eq rfl
def N_exact : List Str := ["upper", "lower", "manner", "below", "power", "how"]
def t8_exact : Rho → SR :=
  (sret (callD 4 d_fitted (acons (callD 4 d_taken (acons (bop divD (var 0) (var 1)) (acons (bop modD (var 0) (var 1)) (acons (var 1) (acons (var 5) anil))))) (acons (var 4) (acons (var 3) (acons (var 5) anil))))))
def t7_exact : Rho → SR :=
  sseq (sasg (callD 2 d_by_size (acons (var 2) (acons (var 3) anil))) (gn 5)) (t8_exact)
def t6_exact : Rho → SR :=
  sseq (sasg (bop mulD (var 1) (callD 1 d_ten (acons (cal maxD (acons (var 4) (acons (con (.int 0)) anil))) anil))) (gn 1)) (t7_exact)
def t5_exact : Rho → SR :=
  sseq (sasg (bop mulD (var 0) (callD 1 d_ten (acons (cal maxD (acons (una negD (var 4)) (acons (con (.int 0)) anil))) anil))) (gn 0)) (t6_exact)
def t4_exact : Rho → SR :=
  sseq (sasg (callD 2 d_power_for (acons (var 0) (acons (var 1) anil))) (gn 4)) (t5_exact)
def t3_exact : Rho → SR :=
  sseq (sasg (cal absD (acons (var 1) anil)) (gn 1)) (t4_exact)
def t2_exact : Rho → SR :=
  sseq (sasg (cal absD (acons (var 0) anil)) (gn 0)) (t3_exact)
def t1_exact : Rho → SR :=
  sseq (sasg (bop neD (bop ltD (var 0) (con (.int 0))) (bop ltD (var 1) (con (.int 0)))) (gn 3)) (t2_exact)
def g_exact : Rho → SR :=
  sseq (sif (tst (bop eqD (var 0) (con (.int 0)))) (sret (mkT (acons (con (.int 0)) (acons (con (.int 0)) anil)))) sskip) (t1_exact)
def d_exact (ds : List D) : Res D := runB 6 g_exact ds
theorem v_exact {a0 a1 a2 : D} : d_exact [a0, a1, a2] = finR (g_exact [.z a0, .z a1, .z a2, .u, .u, .u]) := runB_eq rfl
def N__law_ten : List Str := ["power", "found", "k"]
def b1__law_ten : Rho → SR :=
  (sasg (bop mulD (var 1) (con (.int 10))) (gn 1))
def t2__law_ten : Rho → SR :=
  (sret (var 1))
def t1__law_ten : Rho → SR :=
  sseq (sfor (rng1 (acons (var 0) anil)) (gn 2) b1__law_ten) (t2__law_ten)
def g__law_ten : Rho → SR :=
  sseq (sasg (con (.int 1)) (gn 1)) (t1__law_ten)
def d__law_ten (ds : List D) : Res D := runB 3 g__law_ten ds
theorem v__law_ten {a0 : D} : d__law_ten [a0] = finR (g__law_ten [.z a0, .u, .u]) := runB_eq rfl
def N__law_exact : List Str := ["upper", "lower", "manner", "power", "entire", "twice", "found"]
def c1__law_exact : Rho → Res Bool :=
  (tst (bop ltD (bop mulD (cal absD (acons (var 0) anil)) (callD 1 d__law_ten (acons (cal maxD (acons (una negD (var 3)) (acons (con (.int 0)) anil))) anil))) (bop mulD (var 1) (callD 1 d__law_ten (acons (bop addD (cal maxD (acons (var 3) (acons (con (.int 0)) anil))) (con (.int 7))) anil)))))
def b2__law_exact : Rho → SR :=
  (sasg (bop subD (var 3) (con (.int 1))) (gn 3))
def t12__law_exact : Rho → SR :=
  (sret (var 6))
def t11__law_exact : Rho → SR :=
  sseq (sif (tst (bop ltD (callD 1 d__law_height (acons (var 6) anil)) (una negD (con (.int 40))))) (sret (callD 2 d__law_tidy (acons (bop subD (cal intD (acons (andE (bop eqD (var 2) (con (.str "up"))) (bop gtD (var 0) (con (.int 0)))) anil)) (cal intD (acons (andE (bop eqD (var 2) (con (.str "down"))) (bop ltD (var 0) (con (.int 0)))) anil))) (acons (una negD (con (.int 40))) anil)))) sskip) (t12__law_exact)
def t10__law_exact : Rho → SR :=
  sseq (sif (tst (bop gtD (callD 1 d__law_height (acons (var 6) anil)) (con (.int 40)))) (sret (con .non)) sskip) (t11__law_exact)
def t9__law_exact : Rho → SR :=
  sseq (sasg (callD 2 d__law_tidy (acons (var 4) (acons (var 3) anil))) (gn 6)) (t10__law_exact)
def t8__law_exact : Rho → SR :=
  sseq (sif (tst (bop gtD (bop modD (var 0) (var 1)) (con (.int 0)))) (sif (andQ (tst (bop inD (var 2) (mkT (acons (con (.str "even")) (acons (con (.str "away")) anil))))) (tst (bop eqD (var 5) (con (.int 0))))) (sasg (bop addD (var 4) (bop ixD (mkL (acons (bop modD (var 4) (con (.int 2))) (acons (cal intD (acons (bop gtD (var 0) (con (.int 0))) anil)) anil))) (cal intD (acons (bop eqD (var 2) (con (.str "away"))) anil)))) (gn 4)) (sif (tst (bop inD (var 2) (mkT (acons (con (.str "even")) (acons (con (.str "away")) anil))))) (sasg (bop addD (var 4) (cal intD (acons (bop gtD (var 5) (con (.int 0))) anil))) (gn 4)) (sasg (bop addD (var 4) (cal intD (acons (orE (bop eqD (var 2) (con (.str "up"))) (andE (bop eqD (var 2) (con (.str "nought"))) (bop ltD (var 0) (con (.int 0))))) anil))) (gn 4)))) sskip) (t9__law_exact)
def t7__law_exact : Rho → SR :=
  sseq (sasg (bop subD (bop mulD (con (.int 2)) (var 0)) (bop mulD (bop addD (bop mulD (con (.int 2)) (var 4)) (con (.int 1))) (var 1))) (gn 5)) (t8__law_exact)
def t6__law_exact : Rho → SR :=
  sseq (sasg (bop divD (var 0) (var 1)) (gn 4)) (t7__law_exact)
def t5__law_exact : Rho → SR :=
  sseq (sasg (bop mulD (var 1) (callD 1 d__law_ten (acons (cal maxD (acons (var 3) (acons (con (.int 0)) anil))) anil))) (gn 1)) (t6__law_exact)
def t4__law_exact : Rho → SR :=
  sseq (sasg (bop mulD (var 0) (callD 1 d__law_ten (acons (cal maxD (acons (una negD (var 3)) (acons (con (.int 0)) anil))) anil))) (gn 0)) (t5__law_exact)
def t3__law_exact : Rho → SR :=
  sseq (whileD c1__law_exact b2__law_exact 100000) (t4__law_exact)
def t2__law_exact : Rho → SR :=
  sseq (sasg (bop subD (bop subD (cal lenD (acons (cal strD (acons (cal absD (acons (var 0) anil)) anil)) anil)) (cal lenD (acons (cal strD (acons (var 1) anil)) anil))) (con (.int 7))) (gn 3)) (t3__law_exact)
def t1__law_exact : Rho → SR :=
  sseq (sif (tst (bop eqD (var 0) (con (.int 0)))) (sret (mkT (acons (con (.int 0)) (acons (con (.int 0)) anil)))) sskip) (t2__law_exact)
def g__law_exact : Rho → SR :=
  sseq (sif (tst (bop ltD (var 1) (con (.int 0)))) (sseq (sasg (una negD (var 0)) (gn 0))
    (sasg (una negD (var 1)) (gn 1))) sskip) (t1__law_exact)
def d__law_exact (ds : List D) : Res D := runB 7 g__law_exact ds
theorem v__law_exact {a0 a1 a2 : D} : d__law_exact [a0, a1, a2] = finR (g__law_exact [.z a0, .z a1, .z a2, .u, .u, .u, .u]) := runB_eq rfl
def N__law_manner : List Str := ["number"]
def g__law_manner : Rho → SR :=
  (sret (bop ixD (mkT (acons (con (.str "even")) (acons (con (.str "away")) (acons (con (.str "nought")) (acons (con (.str "up")) (acons (con (.str "down")) anil)))))) (bop modD (var 0) (con (.int 5)))))
def d__law_manner (ds : List D) : Res D := runB 1 g__law_manner ds
theorem v__law_manner {a0 : D} : d__law_manner [a0] = finR (g__law_manner [.z a0]) := runB_eq rfl
def N_level : List Str := ["one", "other", "power"]
def t1_level : Rho → SR :=
  (sret (mkT (acons (bop mulD (bop ixD (var 0) (con (.int 0))) (callD 1 d_ten (acons (bop subD (bop ixD (var 0) (con (.int 1))) (var 2)) anil))) (acons (bop mulD (bop ixD (var 1) (con (.int 0))) (callD 1 d_ten (acons (bop subD (bop ixD (var 1) (con (.int 1))) (var 2)) anil))) (acons (var 2) anil)))))
def g_level : Rho → SR :=
  sseq (sasg (cal minD (acons (bop ixD (var 0) (con (.int 1))) (acons (bop ixD (var 1) (con (.int 1))) anil))) (gn 2)) (t1_level)
def d_level (ds : List D) : Res D := runB 3 g_level ds
theorem v_level {a0 a1 : D} : d_level [a0, a1] = finR (g_level [.z a0, .z a1, .u]) := runB_eq rfl
def N_of_power : List Str := ["whole", "power", "manner"]
def g_of_power : Rho → SR :=
  (sret (callD 3 d_exact (acons (bop mulD (var 0) (callD 1 d_ten (acons (cal maxD (acons (var 1) (acons (con (.int 0)) anil))) anil))) (acons (callD 1 d_ten (acons (cal maxD (acons (una negD (var 1)) (acons (con (.int 0)) anil))) anil)) (acons (var 2) anil)))))
def d_of_power (ds : List D) : Res D := runB 3 g_of_power ds
theorem v_of_power {a0 a1 a2 : D} : d_of_power [a0, a1, a2] = finR (g_of_power [.z a0, .z a1, .z a2]) := runB_eq rfl
def N_plus : List Str := ["one", "other", "manner", "left", "right", "power"]
def t1_plus : Rho → SR :=
  (sret (callD 3 d_of_power (acons (bop addD (var 3) (var 4)) (acons (var 5) (acons (var 2) anil)))))
def g_plus : Rho → SR :=
  sseq (sasg (callD 2 d_level (acons (var 0) (acons (var 1) anil))) (gt 3 (gsc (gn 3) (gsc (gn 4) (gsc (gn 5) gsn))))) (t1_plus)
def d_plus (ds : List D) : Res D := runB 6 g_plus ds
theorem v_plus {a0 a1 a2 : D} : d_plus [a0, a1, a2] = finR (g_plus [.z a0, .z a1, .z a2, .u, .u, .u]) := runB_eq rfl
def N_turned : List Str := ["one"]
def g_turned : Rho → SR :=
  (sret (mkT (acons (una negD (bop ixD (var 0) (con (.int 0)))) (acons (bop ixD (var 0) (con (.int 1))) anil))))
def d_turned (ds : List D) : Res D := runB 1 g_turned ds
theorem v_turned {a0 : D} : d_turned [a0] = finR (g_turned [.z a0]) := runB_eq rfl
def N_minus : List Str := ["one", "other", "manner"]
def g_minus : Rho → SR :=
  (sret (callD 3 d_plus (acons (var 0) (acons (callD 1 d_turned (acons (var 1) anil)) (acons (var 2) anil)))))
def d_minus (ds : List D) : Res D := runB 3 g_minus ds
theorem v_minus {a0 a1 a2 : D} : d_minus [a0, a1, a2] = finR (g_minus [.z a0, .z a1, .z a2]) := runB_eq rfl
def N_times : List Str := ["one", "other", "manner"]
def g_times : Rho → SR :=
  (sret (callD 3 d_of_power (acons (bop mulD (bop ixD (var 0) (con (.int 0))) (bop ixD (var 1) (con (.int 0)))) (acons (bop addD (bop ixD (var 0) (con (.int 1))) (bop ixD (var 1) (con (.int 1)))) (acons (var 2) anil)))))
def d_times (ds : List D) : Res D := runB 3 g_times ds
theorem v_times {a0 a1 a2 : D} : d_times [a0, a1, a2] = finR (g_times [.z a0, .z a1, .z a2]) := runB_eq rfl
def N_over : List Str := ["one", "other", "manner", "power"]
def t2_over : Rho → SR :=
  (sret (callD 3 d_exact (acons (bop mulD (bop ixD (var 0) (con (.int 0))) (callD 1 d_ten (acons (cal maxD (acons (var 3) (acons (con (.int 0)) anil))) anil))) (acons (bop mulD (bop ixD (var 1) (con (.int 0))) (callD 1 d_ten (acons (cal maxD (acons (una negD (var 3)) (acons (con (.int 0)) anil))) anil))) (acons (var 2) anil)))))
def t1_over : Rho → SR :=
  sseq (sasg (bop subD (bop ixD (var 0) (con (.int 1))) (bop ixD (var 1) (con (.int 1)))) (gn 3)) (t2_over)
def g_over : Rho → SR :=
  sseq (sif (tst (bop eqD (bop ixD (var 1) (con (.int 0))) (con (.int 0)))) (sraise "NoDeed") sskip) (t1_over)
def d_over (ds : List D) : Res D := runB 4 g_over ds
theorem v_over {a0 a1 a2 : D} : d_over [a0, a1, a2] = finR (g_over [.z a0, .z a1, .z a2, .u]) := runB_eq rfl
def N_less : List Str := ["one", "other", "left", "right", "power"]
def t1_less : Rho → SR :=
  (sret (bop ltD (var 2) (var 3)))
def g_less : Rho → SR :=
  sseq (sasg (callD 2 d_level (acons (var 0) (acons (var 1) anil))) (gt 3 (gsc (gn 2) (gsc (gn 3) (gsc (gn 4) gsn))))) (t1_less)
def d_less (ds : List D) : Res D := runB 5 g_less ds
theorem v_less {a0 a1 : D} : d_less [a0, a1] = finR (g_less [.z a0, .z a1, .u, .u, .u]) := runB_eq rfl
def N__law_deed : List Str := ["word", "one", "other", "manner", "power", "sign", "low", "found"]
def t6__law_deed : Rho → SR :=
  (sret (callD 3 d__law_exact (acons (var 7) (acons (callD 1 d__law_ten (acons (una negD (var 6)) anil)) (acons (var 3) anil)))))
def t5__law_deed : Rho → SR :=
  sseq (sasg (bop addD (var 7) (bop mulD (bop mulD (var 5) (bop ixD (var 2) (con (.int 0)))) (callD 1 d__law_ten (acons (bop subD (bop ixD (var 2) (con (.int 1))) (var 6)) anil)))) (gn 7)) (t6__law_deed)
def t4__law_deed : Rho → SR :=
  sseq (sasg (bop mulD (bop ixD (var 1) (con (.int 0))) (callD 1 d__law_ten (acons (bop subD (bop ixD (var 1) (con (.int 1))) (var 6)) anil))) (gn 7)) (t5__law_deed)
def t3__law_deed : Rho → SR :=
  sseq (sasg (cal min3D (acons (bop ixD (var 1) (con (.int 1))) (acons (bop ixD (var 2) (con (.int 1))) (acons (con (.int 0)) anil)))) (gn 6)) (t4__law_deed)
def t2__law_deed : Rho → SR :=
  sseq (sasg (bop subD (con (.int 1)) (bop mulD (con (.int 2)) (cal intD (acons (bop eqD (var 0) (con (.str "minus"))) anil)))) (gn 5)) (t3__law_deed)
def t1__law_deed : Rho → SR :=
  sseq (sif (tst (bop eqD (var 0) (con (.str "over")))) (sseq (sasg (bop subD (bop ixD (var 1) (con (.int 1))) (bop ixD (var 2) (con (.int 1)))) (gn 4))
    (sret (callD 3 d__law_exact (acons (bop mulD (bop ixD (var 1) (con (.int 0))) (callD 1 d__law_ten (acons (cal maxD (acons (var 4) (acons (con (.int 0)) anil))) anil))) (acons (bop mulD (bop ixD (var 2) (con (.int 0))) (callD 1 d__law_ten (acons (cal maxD (acons (una negD (var 4)) (acons (con (.int 0)) anil))) anil))) (acons (var 3) anil)))))) sskip) (t2__law_deed)
def g__law_deed : Rho → SR :=
  sseq (sif (tst (bop eqD (var 0) (con (.str "times")))) (sseq (sasg (bop addD (bop ixD (var 1) (con (.int 1))) (bop ixD (var 2) (con (.int 1)))) (gn 4))
    (sret (callD 3 d__law_exact (acons (bop mulD (bop mulD (bop ixD (var 1) (con (.int 0))) (bop ixD (var 2) (con (.int 0)))) (callD 1 d__law_ten (acons (cal maxD (acons (var 4) (acons (con (.int 0)) anil))) anil))) (acons (callD 1 d__law_ten (acons (cal maxD (acons (una negD (var 4)) (acons (con (.int 0)) anil))) anil)) (acons (var 3) anil)))))) sskip) (t1__law_deed)
def d__law_deed (ds : List D) : Res D := runB 8 g__law_deed ds
theorem v__law_deed {a0 a1 a2 a3 : D} : d__law_deed [a0, a1, a2, a3] = finR (g__law_deed [.z a0, .z a1, .z a2, .z a3, .u, .u, .u, .u]) := runB_eq rfl
def N__law_right : List Str := ["found", "due"]
def g__law_right : Rho → SR :=
  (sret (bop eqD (var 0) (bop ixD (mkL (acons (mkT (acons (con (.str "told")) (acons (var 1) anil))) (acons (mkT (acons (con (.str "refused")) (acons (con (.int 0)) anil))) anil))) (cal intD (acons (bop isN (var 1) (con .non)) anil)))))
def d__law_right (ds : List D) : Res D := runB 2 g__law_right ds
theorem v__law_right {a0 a1 : D} : d__law_right [a0, a1] = finR (g__law_right [.z a0, .z a1]) := runB_eq rfl
def topS (i : Nat) : Stmt := PySem.Challenge.pw_pocketpile_k10_deeds.main.body.getD i (.Pass ⟨0, 0, 0, 0⟩)
abbrev s_ten : Stmt := topS 10
abbrev s_figures_of : Stmt := topS 11
abbrev s_height : Stmt := topS 12
abbrev s_taken : Stmt := topS 13
abbrev s_by_size : Stmt := topS 14
abbrev s_fitted : Stmt := topS 15
abbrev s_power_for : Stmt := topS 16
abbrev s_exact : Stmt := topS 17
abbrev s_level : Stmt := topS 19
abbrev s_of_power : Stmt := topS 20
abbrev s_plus : Stmt := topS 21
abbrev s_turned : Stmt := topS 22
abbrev s_minus : Stmt := topS 23
abbrev s_times : Stmt := topS 24
abbrev s_over : Stmt := topS 25
abbrev s_less : Stmt := topS 26
abbrev s__law_cell_at : Stmt := topS 28
abbrev s__law_mixed : Stmt := topS 29
abbrev s__law_drawn : Stmt := topS 30
abbrev s__law_ten : Stmt := topS 31
abbrev s__law_height : Stmt := topS 32
abbrev s__law_tidy : Stmt := topS 33
abbrev s__law_number : Stmt := topS 34
abbrev s__law_exact : Stmt := topS 35
abbrev s__law_manner : Stmt := topS 36
abbrev s__law_deed : Stmt := topS 37
abbrev s__law_told : Stmt := topS 38
abbrev s__law_right : Stmt := topS 39
abbrev s_law : Stmt := topS 40
def tfs : List He.Defn := [("law", none)]
def tabT (K : PySem.W.Frag) : List (Addr × Str) := [((He.cT K ("law", none)).2, ("law" : Str) ++ ".<locals>." ++ "<lambda>")]
def huB (K : PySem.W.Frag) (x : Str) : Bool := (tabT K).all fun p => !decide (p.1 = (He.cT K (x, none)).2) || decide (p.2 = x ++ ".<locals>." ++ "<lambda>")
theorem huB_ok {K : PySem.W.Frag} {x : Str} (h : huB K x = true) : ∀ p ∈ tabT K, p.1 = (He.cT K (x, none)).2 → p.2 = x ++ ".<locals>." ++ "<lambda>" := fun p hp e => by
  have := List.all_eq_true.mp h p hp
  simpa [e] using this
theorem sc__law_told : FnScope ["deed", "found", "e", "kinds"] ["deed"] (defScope s__law_told) := ⟨rfl, rfl, rfl, by decide +kernel, rfl, by decide +kernel, by decide +kernel⟩
theorem toldS : ToldS (defScope s__law_told) := ⟨by decide +kernel, by decide +kernel, rfl, rfl, rfl⟩
structure Top (w : World) (K : PySem.W.Frag) (mg : Str → Option Value) : Prop where
  f_ten : ∃ fd, FunD K "ten" "ten" (defArgs s_ten) (defBody s_ten) (defScope s_ten) [] [] (He.ga K "ten") fd
  m_ten : mg "ten" = some (.ref (He.ga K "ten"))
  f_figures_of : ∃ fd, FunD K "figures_of" "figures_of" (defArgs s_figures_of) (defBody s_figures_of) (defScope s_figures_of) [] [] (He.ga K "figures_of") fd
  m_figures_of : mg "figures_of" = some (.ref (He.ga K "figures_of"))
  f_height : ∃ fd, FunD K "height" "height" (defArgs s_height) (defBody s_height) (defScope s_height) [] [] (He.ga K "height") fd
  m_height : mg "height" = some (.ref (He.ga K "height"))
  f_taken : ∃ fd, FunD K "taken" "taken" (defArgs s_taken) (defBody s_taken) (defScope s_taken) [] [] (He.ga K "taken") fd
  m_taken : mg "taken" = some (.ref (He.ga K "taken"))
  f_by_size : ∃ fd, FunD K "by_size" "by_size" (defArgs s_by_size) (defBody s_by_size) (defScope s_by_size) [] [] (He.ga K "by_size") fd
  m_by_size : mg "by_size" = some (.ref (He.ga K "by_size"))
  f_fitted : ∃ fd, FunD K "fitted" "fitted" (defArgs s_fitted) (defBody s_fitted) (defScope s_fitted) [] [] (He.ga K "fitted") fd
  m_fitted : mg "fitted" = some (.ref (He.ga K "fitted"))
  f_power_for : ∃ fd, FunD K "power_for" "power_for" (defArgs s_power_for) (defBody s_power_for) (defScope s_power_for) [] [] (He.ga K "power_for") fd
  m_power_for : mg "power_for" = some (.ref (He.ga K "power_for"))
  f_exact : ∃ fd, FunD K "exact" "exact" (defArgs s_exact) (defBody s_exact) (defScope s_exact) [] [] (He.ga K "exact") fd
  m_exact : mg "exact" = some (.ref (He.ga K "exact"))
  f_level : ∃ fd, FunD K "level" "level" (defArgs s_level) (defBody s_level) (defScope s_level) [] [] (He.ga K "level") fd
  m_level : mg "level" = some (.ref (He.ga K "level"))
  f_of_power : ∃ fd, FunD K "of_power" "of_power" (defArgs s_of_power) (defBody s_of_power) (defScope s_of_power) [] [] (He.ga K "of_power") fd
  m_of_power : mg "of_power" = some (.ref (He.ga K "of_power"))
  f_plus : ∃ fd, FunD K "plus" "plus" (defArgs s_plus) (defBody s_plus) (defScope s_plus) [] [] (He.ga K "plus") fd
  m_plus : mg "plus" = some (.ref (He.ga K "plus"))
  f_turned : ∃ fd, FunD K "turned" "turned" (defArgs s_turned) (defBody s_turned) (defScope s_turned) [] [] (He.ga K "turned") fd
  m_turned : mg "turned" = some (.ref (He.ga K "turned"))
  f_minus : ∃ fd, FunD K "minus" "minus" (defArgs s_minus) (defBody s_minus) (defScope s_minus) [] [] (He.ga K "minus") fd
  m_minus : mg "minus" = some (.ref (He.ga K "minus"))
  f_times : ∃ fd, FunD K "times" "times" (defArgs s_times) (defBody s_times) (defScope s_times) [] [] (He.ga K "times") fd
  m_times : mg "times" = some (.ref (He.ga K "times"))
  f_over : ∃ fd, FunD K "over" "over" (defArgs s_over) (defBody s_over) (defScope s_over) [] [] (He.ga K "over") fd
  m_over : mg "over" = some (.ref (He.ga K "over"))
  f_less : ∃ fd, FunD K "less" "less" (defArgs s_less) (defBody s_less) (defScope s_less) [] [] (He.ga K "less") fd
  m_less : mg "less" = some (.ref (He.ga K "less"))
  f__law_cell_at : ∃ fd, FunD K "_law_cell_at" "_law_cell_at" (defArgs s__law_cell_at) (defBody s__law_cell_at) (defScope s__law_cell_at) [] [] (He.ga K "_law_cell_at") fd
  m__law_cell_at : mg "_law_cell_at" = some (.ref (He.ga K "_law_cell_at"))
  f__law_mixed : ∃ fd, FunD K "_law_mixed" "_law_mixed" (defArgs s__law_mixed) (defBody s__law_mixed) (defScope s__law_mixed) [] [] (He.ga K "_law_mixed") fd
  m__law_mixed : mg "_law_mixed" = some (.ref (He.ga K "_law_mixed"))
  f__law_drawn : ∃ fd, FunD K "_law_drawn" "_law_drawn" (defArgs s__law_drawn) (defBody s__law_drawn) (defScope s__law_drawn) [] [] (He.ga K "_law_drawn") fd
  m__law_drawn : mg "_law_drawn" = some (.ref (He.ga K "_law_drawn"))
  f__law_ten : ∃ fd, FunD K "_law_ten" "_law_ten" (defArgs s__law_ten) (defBody s__law_ten) (defScope s__law_ten) [] [] (He.ga K "_law_ten") fd
  m__law_ten : mg "_law_ten" = some (.ref (He.ga K "_law_ten"))
  f__law_height : ∃ fd, FunD K "_law_height" "_law_height" (defArgs s__law_height) (defBody s__law_height) (defScope s__law_height) [] [] (He.ga K "_law_height") fd
  m__law_height : mg "_law_height" = some (.ref (He.ga K "_law_height"))
  f__law_tidy : ∃ fd, FunD K "_law_tidy" "_law_tidy" (defArgs s__law_tidy) (defBody s__law_tidy) (defScope s__law_tidy) [] [] (He.ga K "_law_tidy") fd
  m__law_tidy : mg "_law_tidy" = some (.ref (He.ga K "_law_tidy"))
  f__law_number : ∃ fd, FunD K "_law_number" "_law_number" (defArgs s__law_number) (defBody s__law_number) (defScope s__law_number) [] [] (He.ga K "_law_number") fd
  m__law_number : mg "_law_number" = some (.ref (He.ga K "_law_number"))
  f__law_exact : ∃ fd, FunD K "_law_exact" "_law_exact" (defArgs s__law_exact) (defBody s__law_exact) (defScope s__law_exact) [] [] (He.ga K "_law_exact") fd
  m__law_exact : mg "_law_exact" = some (.ref (He.ga K "_law_exact"))
  f__law_manner : ∃ fd, FunD K "_law_manner" "_law_manner" (defArgs s__law_manner) (defBody s__law_manner) (defScope s__law_manner) [] [] (He.ga K "_law_manner") fd
  m__law_manner : mg "_law_manner" = some (.ref (He.ga K "_law_manner"))
  f__law_deed : ∃ fd, FunD K "_law_deed" "_law_deed" (defArgs s__law_deed) (defBody s__law_deed) (defScope s__law_deed) [] [] (He.ga K "_law_deed") fd
  m__law_deed : mg "_law_deed" = some (.ref (He.ga K "_law_deed"))
  f__law_told : ∃ fd, FunD K "_law_told" "_law_told" (defArgs s__law_told) (defBody s__law_told) (defScope s__law_told) [] [] (He.ga K "_law_told") fd
  m__law_told : mg "_law_told" = some (.ref (He.ga K "_law_told"))
  f__law_right : ∃ fd, FunD K "_law_right" "_law_right" (defArgs s__law_right) (defBody s__law_right) (defScope s__law_right) [] [] (He.ga K "_law_right") fd
  m__law_right : mg "_law_right" = some (.ref (He.ga K "_law_right"))
  f_law : ∃ fd, FunD K "law" "law" (defArgs s_law) (defBody s_law) (defScope s_law) [] [] (He.ga K "law") fd
  m_law : mg "law" = some (.ref (He.ga K "law"))
  b_int : mg "int" = none
  b_abs : mg "abs" = none
  b_str : mg "str" = none
  b_len : mg "len" = none
  b_max : mg "max" = none
  b_min : mg "min" = none
  b_range : mg "range" = none
  b_bool : mg "bool" = none
  b_isinstance : mg "isinstance" = none
  c_HIGHEST : ∃ t, mg "HIGHEST" = some (.int (40) t)
  c_MOST : ∃ t, mg "MOST" = some (.int (8) t)
  e_TooGreat : ExcN K mg "TooGreat"
  e_NoDeed : ExcN K mg "NoDeed"
  told : ToldC K mg
  hu_law : ∀ p ∈ tabT K, p.1 = (He.cT K ("law", none)).2 → p.2 = ("law" : Str) ++ ".<locals>." ++ "<lambda>"
section
variable {P : Program} {w : World} {K : PySem.W.Frag} {mg : Str → Option Value} {base : Heap} {T : List (Addr × Str)}
theorem sc_ten : FnScope N_ten ["power"] (defScope s_ten) := ⟨rfl, rfl, rfl, by decide +kernel, rfl, by decide +kernel, by decide +kernel⟩
theorem ok_ten (Z : Top w K mg) : OkD P w K mg base T 1 "ten" 1 d_ten := by
  obtain ⟨fd, Fd⟩ := Z.f_ten
  refine ⟨⟨fd, ["power"], fn_ok Fd sc_ten rfl fun cdv A outer s0 H0 E F0 hr => ?_, Fd.bindsN (ps := ["power"]) (fun _ _ _ _ _ _ us hl => match us, hl with | [_], _ => rfl)⟩, Fd.kp, Z.m_ten⟩
  have tk : Takes (cxOf (L2.CX P w) P w K mg base N_ten "ten" (defScope s_ten) (He.ga K "ten") cdv A outer s0 H0 E) (WofE E) := takes_of rfl rfl rfl rfl
  have po : PassesOwn (model P w) (cxOf (L2.CX P w) P w K mg base N_ten "ten" (defScope s_ten) (He.ga K "ten") cdv A outer s0 H0 E).A (cxOf (L2.CX P w) P w K mg base N_ten "ten" (defScope s_ten) (He.ga K "ten") cdv A outer s0 H0 E).env (cxOf (L2.CX P w) P w K mg base N_ten "ten" (defScope s_ten) (He.ga K "ten") cdv A outer s0 H0 E).xe := passes_of (X := (cxOf (L2.CX P w) P w K mg base N_ten "ten" (defScope s_ten) (He.ga K "ten") cdv A outer s0 H0 E)) rfl
  have hu := hr.units
  exact (s_one (s_ret (e_callTy c_int rfl Z.b_int bt_int (a_cons (e_bin o_add e_str (e_bin o_mul e_str (e_var (pv 0)))) a_nil))))
theorem sc_figures_of : FnScope N_figures_of ["whole"] (defScope s_figures_of) := ⟨rfl, rfl, rfl, by decide +kernel, rfl, by decide +kernel, by decide +kernel⟩
theorem ok_figures_of (Z : Top w K mg) : OkD P w K mg base T 1 "figures_of" 1 d_figures_of := by
  obtain ⟨fd, Fd⟩ := Z.f_figures_of
  refine ⟨⟨fd, ["whole"], fn_ok Fd sc_figures_of rfl fun cdv A outer s0 H0 E F0 hr => ?_, Fd.bindsN (ps := ["whole"]) (fun _ _ _ _ _ _ us hl => match us, hl with | [_], _ => rfl)⟩, Fd.kp, Z.m_figures_of⟩
  have tk : Takes (cxOf (L2.CX P w) P w K mg base N_figures_of "figures_of" (defScope s_figures_of) (He.ga K "figures_of") cdv A outer s0 H0 E) (WofE E) := takes_of rfl rfl rfl rfl
  have po : PassesOwn (model P w) (cxOf (L2.CX P w) P w K mg base N_figures_of "figures_of" (defScope s_figures_of) (He.ga K "figures_of") cdv A outer s0 H0 E).A (cxOf (L2.CX P w) P w K mg base N_figures_of "figures_of" (defScope s_figures_of) (He.ga K "figures_of") cdv A outer s0 H0 E).env (cxOf (L2.CX P w) P w K mg base N_figures_of "figures_of" (defScope s_figures_of) (He.ga K "figures_of") cdv A outer s0 H0 E).xe := passes_of (X := (cxOf (L2.CX P w) P w K mg base N_figures_of "figures_of" (defScope s_figures_of) (He.ga K "figures_of") cdv A outer s0 H0 E)) rfl
  have hu := hr.units
  exact (s_one (s_ret (e_callB c_len rfl Z.b_len bt_len (a_cons (e_callTy c_str rfl Z.b_str bt_str (a_cons (e_callB c_abs rfl Z.b_abs bt_abs (a_cons (e_var (pv 0)) a_nil)) a_nil)) a_nil))))
theorem sc_height : FnScope N_height ["number"] (defScope s_height) := ⟨rfl, rfl, rfl, by decide +kernel, rfl, by decide +kernel, by decide +kernel⟩
theorem ok_height (Z : Top w K mg) : OkD P w K mg base T 2 "height" 1 d_height := by
  obtain ⟨fd, Fd⟩ := Z.f_height
  refine ⟨⟨fd, ["number"], fn_ok Fd sc_height rfl fun cdv A outer s0 H0 E F0 hr => ?_, Fd.bindsN (ps := ["number"]) (fun _ _ _ _ _ _ us hl => match us, hl with | [_], _ => rfl)⟩, Fd.kp, Z.m_height⟩
  have tk : Takes (cxOf (L2.CX P w) P w K mg base N_height "height" (defScope s_height) (He.ga K "height") cdv A outer s0 H0 E) (WofE E) := takes_of rfl rfl rfl rfl
  have po : PassesOwn (model P w) (cxOf (L2.CX P w) P w K mg base N_height "height" (defScope s_height) (He.ga K "height") cdv A outer s0 H0 E).A (cxOf (L2.CX P w) P w K mg base N_height "height" (defScope s_height) (He.ga K "height") cdv A outer s0 H0 E).env (cxOf (L2.CX P w) P w K mg base N_height "height" (defScope s_height) (He.ga K "height") cdv A outer s0 H0 E).xe := passes_of (X := (cxOf (L2.CX P w) P w K mg base N_height "height" (defScope s_height) (He.ga K "height") cdv A outer s0 H0 E)) rfl
  have hu := hr.units
  exact (s_one (s_ret (e_bin o_sub (e_bin o_add (e_ix (e_var (pv 0)) e_int) (e_call (ok_figures_of Z) hr tk rfl (a_cons (e_ix (e_var (pv 0)) e_int) a_nil))) e_int)))
theorem sc_taken : FnScope N_taken ["whole", "rest", "lower", "manner"] (defScope s_taken) := ⟨rfl, rfl, rfl, by decide +kernel, rfl, by decide +kernel, by decide +kernel⟩
theorem ok_taken (Z : Top w K mg) : OkD P w K mg base T 1 "taken" 4 d_taken := by
  obtain ⟨fd, Fd⟩ := Z.f_taken
  refine ⟨⟨fd, ["whole", "rest", "lower", "manner"], fn_ok Fd sc_taken rfl fun cdv A outer s0 H0 E F0 hr => ?_, Fd.bindsN (ps := ["whole", "rest", "lower", "manner"]) (fun _ _ _ _ _ _ us hl => match us, hl with | [_, _, _, _], _ => rfl)⟩, Fd.kp, Z.m_taken⟩
  have tk : Takes (cxOf (L2.CX P w) P w K mg base N_taken "taken" (defScope s_taken) (He.ga K "taken") cdv A outer s0 H0 E) (WofE E) := takes_of rfl rfl rfl rfl
  have po : PassesOwn (model P w) (cxOf (L2.CX P w) P w K mg base N_taken "taken" (defScope s_taken) (He.ga K "taken") cdv A outer s0 H0 E).A (cxOf (L2.CX P w) P w K mg base N_taken "taken" (defScope s_taken) (He.ga K "taken") cdv A outer s0 H0 E).env (cxOf (L2.CX P w) P w K mg base N_taken "taken" (defScope s_taken) (He.ga K "taken") cdv A outer s0 H0 E).xe := passes_of (X := (cxOf (L2.CX P w) P w K mg base N_taken "taken" (defScope s_taken) (He.ga K "taken") cdv A outer s0 H0 E)) rfl
  have hu := hr.units
  exact (s_cons (s_if (q_w (w_or (q_cmp (o_eq hu) (e_var (pv 1)) e_int (nomark _)) (w_or1 (q_cmp (o_eq hu) (e_var (pv 3)) e_str (nomark _))))) (s_one (s_ret (e_var (pv 0)))) s_nil)
    (s_cons (s_if (q_cmp (o_eq hu) (e_var (pv 3)) e_str (nomark _)) (s_one (s_ret (e_bin o_add (e_var (pv 0)) e_int))) s_nil)
    (s_cons (s_if (q_cmp (o_eq hu) (e_bin o_mul e_int (e_var (pv 1))) (e_var (pv 2)) (nomark _)) (s_one (s_ret (e_bin o_add (e_var (pv 0)) (e_callTy c_int rfl Z.b_int bt_int (a_cons (e_or (e_cmp (o_eq hu) (e_var (pv 3)) e_str (nomark _)) (e_one (e_cmp (o_eq hu) (e_bin o_mod (e_var (pv 0)) e_int) e_int (nomark _)))) a_nil))))) s_nil)
    (s_one (s_ret (e_bin o_add (e_var (pv 0)) (e_callTy c_int rfl Z.b_int bt_int (a_cons (e_cmp o_gt (e_bin o_mul e_int (e_var (pv 1))) (e_var (pv 2)) (nomark _)) a_nil))))))))
theorem sc_by_size : FnScope N_by_size ["manner", "below"] (defScope s_by_size) := ⟨rfl, rfl, rfl, by decide +kernel, rfl, by decide +kernel, by decide +kernel⟩
theorem ok_by_size (Z : Top w K mg) : OkD P w K mg base T 1 "by_size" 2 d_by_size := by
  obtain ⟨fd, Fd⟩ := Z.f_by_size
  refine ⟨⟨fd, ["manner", "below"], fn_ok Fd sc_by_size rfl fun cdv A outer s0 H0 E F0 hr => ?_, Fd.bindsN (ps := ["manner", "below"]) (fun _ _ _ _ _ _ us hl => match us, hl with | [_, _], _ => rfl)⟩, Fd.kp, Z.m_by_size⟩
  have tk : Takes (cxOf (L2.CX P w) P w K mg base N_by_size "by_size" (defScope s_by_size) (He.ga K "by_size") cdv A outer s0 H0 E) (WofE E) := takes_of rfl rfl rfl rfl
  have po : PassesOwn (model P w) (cxOf (L2.CX P w) P w K mg base N_by_size "by_size" (defScope s_by_size) (He.ga K "by_size") cdv A outer s0 H0 E).A (cxOf (L2.CX P w) P w K mg base N_by_size "by_size" (defScope s_by_size) (He.ga K "by_size") cdv A outer s0 H0 E).env (cxOf (L2.CX P w) P w K mg base N_by_size "by_size" (defScope s_by_size) (He.ga K "by_size") cdv A outer s0 H0 E).xe := passes_of (X := (cxOf (L2.CX P w) P w K mg base N_by_size "by_size" (defScope s_by_size) (He.ga K "by_size") cdv A outer s0 H0 E)) rfl
  have hu := hr.units
  exact (s_cons (s_if (q_cmp (o_eq hu) (e_var (pv 0)) e_str (nomark _)) (s_one (s_ret (e_ix (e_lst (a_cons e_str (a_cons e_str a_nil))) (e_callTy c_int rfl Z.b_int bt_int (a_cons (e_var (pv 1)) a_nil))))) s_nil)
    (s_cons (s_if (q_cmp (o_eq hu) (e_var (pv 0)) e_str (nomark _)) (s_one (s_ret (e_ix (e_lst (a_cons e_str (a_cons e_str a_nil))) (e_callTy c_int rfl Z.b_int bt_int (a_cons (e_var (pv 1)) a_nil))))) s_nil)
    (s_one (s_ret (e_var (pv 0))))))
theorem sc_fitted : FnScope N_fitted ["whole", "power", "below", "manner"] (defScope s_fitted) := ⟨rfl, rfl, rfl, by decide +kernel, rfl, by decide +kernel, by decide +kernel⟩
theorem ok_fitted (Z : Top w K mg) : OkD P w K mg base T 3 "fitted" 4 d_fitted := by
  obtain ⟨fd, Fd⟩ := Z.f_fitted
  refine ⟨⟨fd, ["whole", "power", "below", "manner"], fn_ok Fd sc_fitted rfl fun cdv A outer s0 H0 E F0 hr => ?_, Fd.bindsN (ps := ["whole", "power", "below", "manner"]) (fun _ _ _ _ _ _ us hl => match us, hl with | [_, _, _, _], _ => rfl)⟩, Fd.kp, Z.m_fitted⟩
  have tk : Takes (cxOf (L2.CX P w) P w K mg base N_fitted "fitted" (defScope s_fitted) (He.ga K "fitted") cdv A outer s0 H0 E) (WofE E) := takes_of rfl rfl rfl rfl
  have po : PassesOwn (model P w) (cxOf (L2.CX P w) P w K mg base N_fitted "fitted" (defScope s_fitted) (He.ga K "fitted") cdv A outer s0 H0 E).A (cxOf (L2.CX P w) P w K mg base N_fitted "fitted" (defScope s_fitted) (He.ga K "fitted") cdv A outer s0 H0 E).env (cxOf (L2.CX P w) P w K mg base N_fitted "fitted" (defScope s_fitted) (He.ga K "fitted") cdv A outer s0 H0 E).xe := passes_of (X := (cxOf (L2.CX P w) P w K mg base N_fitted "fitted" (defScope s_fitted) (He.ga K "fitted") cdv A outer s0 H0 E)) rfl
  have hu := hr.units
  exact (s_cons (s_if (q_cmp (o_eq hu) (e_var (pv 0)) e_int (nomark _)) (s_one (s_ret (e_tup (a_cons e_int (a_cons e_int a_nil))))) s_nil)
    (s_cons (s_while 100000 po (q_cmp (o_eq hu) (e_bin o_mod (e_var (pv 0)) e_int) e_int (nomark _)) (s_cons (s_asg (e_bin o_div (e_var (pv 0)) e_int) (g_name (pg_name (i := 0) sc_fitted.nd rfl (Or.inl rfl))))
    (s_one (s_asg (e_bin o_add (e_var (pv 1)) e_int) (g_name (pg_name (i := 1) sc_fitted.nd rfl (Or.inl rfl)))))))
    (s_cons (s_asg (e_bin o_sub e_int (e_bin o_mul e_int (e_callTy c_int rfl Z.b_int bt_int (a_cons (e_var (pv 2)) a_nil)))) (g_name (pg_name (i := 4) sc_fitted.nd rfl (Or.inl rfl))))
    (s_cons (s_if (q_cmp o_gt (e_call (ok_height Z) hr tk rfl (a_cons (e_tup (a_cons (e_var (pv 0)) (a_cons (e_var (pv 1)) a_nil))) a_nil)) (e_gint Z.c_HIGHEST rfl) (nomark _)) (s_one (s_raise Z.e_TooGreat rfl tk rfl)) s_nil)
    (s_cons (s_if (q_cmp o_lt (e_call (ok_height Z) hr tk rfl (a_cons (e_tup (a_cons (e_var (pv 0)) (a_cons (e_var (pv 1)) a_nil))) a_nil)) (e_una u_neg (e_gint Z.c_HIGHEST rfl)) (nomark _)) (s_cons (s_if (q_cmp (o_eq hu) (e_var (pv 3)) e_str (nomark _)) (s_one (s_ret (e_tup (a_cons (e_var (pv 4)) (a_cons (e_una u_neg (e_gint Z.c_HIGHEST rfl)) a_nil))))) s_nil)
    (s_one (s_ret (e_tup (a_cons e_int (a_cons e_int a_nil)))))) s_nil)
    (s_one (s_ret (e_tup (a_cons (e_bin o_mul (e_var (pv 4)) (e_var (pv 0))) (a_cons (e_var (pv 1)) a_nil))))))))))
theorem sc_power_for : FnScope N_power_for ["upper", "lower"] (defScope s_power_for) := ⟨rfl, rfl, rfl, by decide +kernel, rfl, by decide +kernel, by decide +kernel⟩
theorem ok_power_for (Z : Top w K mg) : OkD P w K mg base T 2 "power_for" 2 d_power_for := by
  obtain ⟨fd, Fd⟩ := Z.f_power_for
  refine ⟨⟨fd, ["upper", "lower"], fn_ok Fd sc_power_for rfl fun cdv A outer s0 H0 E F0 hr => ?_, Fd.bindsN (ps := ["upper", "lower"]) (fun _ _ _ _ _ _ us hl => match us, hl with | [_, _], _ => rfl)⟩, Fd.kp, Z.m_power_for⟩
  have tk : Takes (cxOf (L2.CX P w) P w K mg base N_power_for "power_for" (defScope s_power_for) (He.ga K "power_for") cdv A outer s0 H0 E) (WofE E) := takes_of rfl rfl rfl rfl
  have po : PassesOwn (model P w) (cxOf (L2.CX P w) P w K mg base N_power_for "power_for" (defScope s_power_for) (He.ga K "power_for") cdv A outer s0 H0 E).A (cxOf (L2.CX P w) P w K mg base N_power_for "power_for" (defScope s_power_for) (He.ga K "power_for") cdv A outer s0 H0 E).env (cxOf (L2.CX P w) P w K mg base N_power_for "power_for" (defScope s_power_for) (He.ga K "power_for") cdv A outer s0 H0 E).xe := passes_of (X := (cxOf (L2.CX P w) P w K mg base N_power_for "power_for" (defScope s_power_for) (He.ga K "power_for") cdv A outer s0 H0 E)) rfl
  have hu := hr.units
  exact (s_cons (s_asg (e_bin o_sub (e_bin o_sub (e_call (ok_figures_of Z) hr tk rfl (a_cons (e_var (pv 0)) a_nil)) (e_call (ok_figures_of Z) hr tk rfl (a_cons (e_var (pv 1)) a_nil))) (e_gint Z.c_MOST rfl)) (g_name (pg_name (i := 2) sc_power_for.nd rfl (Or.inl rfl))))
    (s_cons (s_while 100000 po (q_cmp o_ge (e_bin o_mul (e_var (pv 0)) (e_call (ok_ten Z) hr tk rfl (a_cons (e_callB (c_max rfl) rfl Z.b_max bt_max (a_cons (e_una u_neg (e_var (pv 2))) (a_cons e_int a_nil))) a_nil))) (e_bin o_mul (e_bin o_mul (e_var (pv 1)) (e_call (ok_ten Z) hr tk rfl (a_cons (e_callB (c_max rfl) rfl Z.b_max bt_max (a_cons (e_var (pv 2)) (a_cons e_int a_nil))) a_nil))) (e_call (ok_ten Z) hr tk rfl (a_cons (e_gint Z.c_MOST rfl) a_nil))) (nomark _)) (s_one (s_asg (e_bin o_add (e_var (pv 2)) e_int) (g_name (pg_name (i := 2) sc_power_for.nd rfl (Or.inl rfl))))))
    (s_one (s_ret (e_var (pv 2))))))
theorem sc_exact : FnScope N_exact ["upper", "lower", "manner"] (defScope s_exact) := ⟨rfl, rfl, rfl, by decide +kernel, rfl, by decide +kernel, by decide +kernel⟩
theorem ok_exact (Z : Top w K mg) : OkD P w K mg base T 4 "exact" 3 d_exact := by
  obtain ⟨fd, Fd⟩ := Z.f_exact
  refine ⟨⟨fd, ["upper", "lower", "manner"], fn_ok Fd sc_exact rfl fun cdv A outer s0 H0 E F0 hr => ?_, Fd.bindsN (ps := ["upper", "lower", "manner"]) (fun _ _ _ _ _ _ us hl => match us, hl with | [_, _, _], _ => rfl)⟩, Fd.kp, Z.m_exact⟩
  have tk : Takes (cxOf (L2.CX P w) P w K mg base N_exact "exact" (defScope s_exact) (He.ga K "exact") cdv A outer s0 H0 E) (WofE E) := takes_of rfl rfl rfl rfl
  have po : PassesOwn (model P w) (cxOf (L2.CX P w) P w K mg base N_exact "exact" (defScope s_exact) (He.ga K "exact") cdv A outer s0 H0 E).A (cxOf (L2.CX P w) P w K mg base N_exact "exact" (defScope s_exact) (He.ga K "exact") cdv A outer s0 H0 E).env (cxOf (L2.CX P w) P w K mg base N_exact "exact" (defScope s_exact) (He.ga K "exact") cdv A outer s0 H0 E).xe := passes_of (X := (cxOf (L2.CX P w) P w K mg base N_exact "exact" (defScope s_exact) (He.ga K "exact") cdv A outer s0 H0 E)) rfl
  have hu := hr.units
  exact (s_cons (s_if (q_cmp (o_eq hu) (e_var (pv 0)) e_int (nomark _)) (s_one (s_ret (e_tup (a_cons e_int (a_cons e_int a_nil))))) s_nil)
    (s_cons (s_asg (e_cmp (o_ne hu) (e_cmp o_lt (e_var (pv 0)) e_int (nomark _)) (e_cmp o_lt (e_var (pv 1)) e_int (nomark _)) (nomark _)) (g_name (pg_name (i := 3) sc_exact.nd rfl (Or.inl rfl))))
    (s_cons (s_asg (e_callB c_abs rfl Z.b_abs bt_abs (a_cons (e_var (pv 0)) a_nil)) (g_name (pg_name (i := 0) sc_exact.nd rfl (Or.inl rfl))))
    (s_cons (s_asg (e_callB c_abs rfl Z.b_abs bt_abs (a_cons (e_var (pv 1)) a_nil)) (g_name (pg_name (i := 1) sc_exact.nd rfl (Or.inl rfl))))
    (s_cons (s_asg (e_call (ok_power_for Z) hr tk rfl (a_cons (e_var (pv 0)) (a_cons (e_var (pv 1)) a_nil))) (g_name (pg_name (i := 4) sc_exact.nd rfl (Or.inl rfl))))
    (s_cons (s_asg (e_bin o_mul (e_var (pv 0)) (e_call (ok_ten Z) hr tk rfl (a_cons (e_callB (c_max rfl) rfl Z.b_max bt_max (a_cons (e_una u_neg (e_var (pv 4))) (a_cons e_int a_nil))) a_nil))) (g_name (pg_name (i := 0) sc_exact.nd rfl (Or.inl rfl))))
    (s_cons (s_asg (e_bin o_mul (e_var (pv 1)) (e_call (ok_ten Z) hr tk rfl (a_cons (e_callB (c_max rfl) rfl Z.b_max bt_max (a_cons (e_var (pv 4)) (a_cons e_int a_nil))) a_nil))) (g_name (pg_name (i := 1) sc_exact.nd rfl (Or.inl rfl))))
    (s_cons (s_asg (e_call (ok_by_size Z) hr tk rfl (a_cons (e_var (pv 2)) (a_cons (e_var (pv 3)) a_nil))) (g_name (pg_name (i := 5) sc_exact.nd rfl (Or.inl rfl))))
    (s_one (s_ret (e_call (ok_fitted Z) hr tk rfl (a_cons (e_call (ok_taken Z) hr tk rfl (a_cons (e_bin o_div (e_var (pv 0)) (e_var (pv 1))) (a_cons (e_bin o_mod (e_var (pv 0)) (e_var (pv 1))) (a_cons (e_var (pv 1)) (a_cons (e_var (pv 5)) a_nil))))) (a_cons (e_var (pv 4)) (a_cons (e_var (pv 3)) (a_cons (e_var (pv 5)) a_nil)))))))))))))))
theorem sc_level : FnScope N_level ["one", "other"] (defScope s_level) := ⟨rfl, rfl, rfl, by decide +kernel, rfl, by decide +kernel, by decide +kernel⟩
theorem ok_level (Z : Top w K mg) : OkD P w K mg base T 2 "level" 2 d_level := by
  obtain ⟨fd, Fd⟩ := Z.f_level
  refine ⟨⟨fd, ["one", "other"], fn_ok Fd sc_level rfl fun cdv A outer s0 H0 E F0 hr => ?_, Fd.bindsN (ps := ["one", "other"]) (fun _ _ _ _ _ _ us hl => match us, hl with | [_, _], _ => rfl)⟩, Fd.kp, Z.m_level⟩
  have tk : Takes (cxOf (L2.CX P w) P w K mg base N_level "level" (defScope s_level) (He.ga K "level") cdv A outer s0 H0 E) (WofE E) := takes_of rfl rfl rfl rfl
  have po : PassesOwn (model P w) (cxOf (L2.CX P w) P w K mg base N_level "level" (defScope s_level) (He.ga K "level") cdv A outer s0 H0 E).A (cxOf (L2.CX P w) P w K mg base N_level "level" (defScope s_level) (He.ga K "level") cdv A outer s0 H0 E).env (cxOf (L2.CX P w) P w K mg base N_level "level" (defScope s_level) (He.ga K "level") cdv A outer s0 H0 E).xe := passes_of (X := (cxOf (L2.CX P w) P w K mg base N_level "level" (defScope s_level) (He.ga K "level") cdv A outer s0 H0 E)) rfl
  have hu := hr.units
  exact (s_cons (s_asg (e_callB (c_min rfl) rfl Z.b_min bt_min (a_cons (e_ix (e_var (pv 0)) e_int) (a_cons (e_ix (e_var (pv 1)) e_int) a_nil))) (g_name (pg_name (i := 2) sc_level.nd rfl (Or.inl rfl))))
    (s_one (s_ret (e_tup (a_cons (e_bin o_mul (e_ix (e_var (pv 0)) e_int) (e_call (ok_ten Z) hr tk rfl (a_cons (e_bin o_sub (e_ix (e_var (pv 0)) e_int) (e_var (pv 2))) a_nil))) (a_cons (e_bin o_mul (e_ix (e_var (pv 1)) e_int) (e_call (ok_ten Z) hr tk rfl (a_cons (e_bin o_sub (e_ix (e_var (pv 1)) e_int) (e_var (pv 2))) a_nil))) (a_cons (e_var (pv 2)) a_nil)))))))
theorem sc_of_power : FnScope N_of_power ["whole", "power", "manner"] (defScope s_of_power) := ⟨rfl, rfl, rfl, by decide +kernel, rfl, by decide +kernel, by decide +kernel⟩
theorem ok_of_power (Z : Top w K mg) : OkD P w K mg base T 5 "of_power" 3 d_of_power := by
  obtain ⟨fd, Fd⟩ := Z.f_of_power
  refine ⟨⟨fd, ["whole", "power", "manner"], fn_ok Fd sc_of_power rfl fun cdv A outer s0 H0 E F0 hr => ?_, Fd.bindsN (ps := ["whole", "power", "manner"]) (fun _ _ _ _ _ _ us hl => match us, hl with | [_, _, _], _ => rfl)⟩, Fd.kp, Z.m_of_power⟩
  have tk : Takes (cxOf (L2.CX P w) P w K mg base N_of_power "of_power" (defScope s_of_power) (He.ga K "of_power") cdv A outer s0 H0 E) (WofE E) := takes_of rfl rfl rfl rfl
  have po : PassesOwn (model P w) (cxOf (L2.CX P w) P w K mg base N_of_power "of_power" (defScope s_of_power) (He.ga K "of_power") cdv A outer s0 H0 E).A (cxOf (L2.CX P w) P w K mg base N_of_power "of_power" (defScope s_of_power) (He.ga K "of_power") cdv A outer s0 H0 E).env (cxOf (L2.CX P w) P w K mg base N_of_power "of_power" (defScope s_of_power) (He.ga K "of_power") cdv A outer s0 H0 E).xe := passes_of (X := (cxOf (L2.CX P w) P w K mg base N_of_power "of_power" (defScope s_of_power) (He.ga K "of_power") cdv A outer s0 H0 E)) rfl
  have hu := hr.units
  exact (s_one (s_ret (e_call (ok_exact Z) hr tk rfl (a_cons (e_bin o_mul (e_var (pv 0)) (e_call (ok_ten Z) hr tk rfl (a_cons (e_callB (c_max rfl) rfl Z.b_max bt_max (a_cons (e_var (pv 1)) (a_cons e_int a_nil))) a_nil))) (a_cons (e_call (ok_ten Z) hr tk rfl (a_cons (e_callB (c_max rfl) rfl Z.b_max bt_max (a_cons (e_una u_neg (e_var (pv 1))) (a_cons e_int a_nil))) a_nil)) (a_cons (e_var (pv 2)) a_nil))))))
theorem sc_plus : FnScope N_plus ["one", "other", "manner"] (defScope s_plus) := ⟨rfl, rfl, rfl, by decide +kernel, rfl, by decide +kernel, by decide +kernel⟩
theorem ok_plus (Z : Top w K mg) : OkD P w K mg base T 6 "plus" 3 d_plus := by
  obtain ⟨fd, Fd⟩ := Z.f_plus
  refine ⟨⟨fd, ["one", "other", "manner"], fn_ok Fd sc_plus rfl fun cdv A outer s0 H0 E F0 hr => ?_, Fd.bindsN (ps := ["one", "other", "manner"]) (fun _ _ _ _ _ _ us hl => match us, hl with | [_, _, _], _ => rfl)⟩, Fd.kp, Z.m_plus⟩
  have tk : Takes (cxOf (L2.CX P w) P w K mg base N_plus "plus" (defScope s_plus) (He.ga K "plus") cdv A outer s0 H0 E) (WofE E) := takes_of rfl rfl rfl rfl
  have po : PassesOwn (model P w) (cxOf (L2.CX P w) P w K mg base N_plus "plus" (defScope s_plus) (He.ga K "plus") cdv A outer s0 H0 E).A (cxOf (L2.CX P w) P w K mg base N_plus "plus" (defScope s_plus) (He.ga K "plus") cdv A outer s0 H0 E).env (cxOf (L2.CX P w) P w K mg base N_plus "plus" (defScope s_plus) (He.ga K "plus") cdv A outer s0 H0 E).xe := passes_of (X := (cxOf (L2.CX P w) P w K mg base N_plus "plus" (defScope s_plus) (He.ga K "plus") cdv A outer s0 H0 E)) rfl
  have hu := hr.units
  exact (s_cons (s_asg (e_call (ok_level Z) hr tk rfl (a_cons (e_var (pv 0)) (a_cons (e_var (pv 1)) a_nil))) (g_tup rfl (gs_cons (g_name (pg_name (i := 3) sc_plus.nd rfl (Or.inl rfl))) (gs_cons (g_name (pg_name (i := 4) sc_plus.nd rfl (Or.inl rfl))) (gs_cons (g_name (pg_name (i := 5) sc_plus.nd rfl (Or.inl rfl))) gs_nil)))))
    (s_one (s_ret (e_call (ok_of_power Z) hr tk rfl (a_cons (e_bin o_add (e_var (pv 3)) (e_var (pv 4))) (a_cons (e_var (pv 5)) (a_cons (e_var (pv 2)) a_nil)))))))
theorem sc_turned : FnScope N_turned ["one"] (defScope s_turned) := ⟨rfl, rfl, rfl, by decide +kernel, rfl, by decide +kernel, by decide +kernel⟩
theorem ok_turned (Z : Top w K mg) : OkD P w K mg base T 1 "turned" 1 d_turned := by
  obtain ⟨fd, Fd⟩ := Z.f_turned
  refine ⟨⟨fd, ["one"], fn_ok Fd sc_turned rfl fun cdv A outer s0 H0 E F0 hr => ?_, Fd.bindsN (ps := ["one"]) (fun _ _ _ _ _ _ us hl => match us, hl with | [_], _ => rfl)⟩, Fd.kp, Z.m_turned⟩
  have tk : Takes (cxOf (L2.CX P w) P w K mg base N_turned "turned" (defScope s_turned) (He.ga K "turned") cdv A outer s0 H0 E) (WofE E) := takes_of rfl rfl rfl rfl
  have po : PassesOwn (model P w) (cxOf (L2.CX P w) P w K mg base N_turned "turned" (defScope s_turned) (He.ga K "turned") cdv A outer s0 H0 E).A (cxOf (L2.CX P w) P w K mg base N_turned "turned" (defScope s_turned) (He.ga K "turned") cdv A outer s0 H0 E).env (cxOf (L2.CX P w) P w K mg base N_turned "turned" (defScope s_turned) (He.ga K "turned") cdv A outer s0 H0 E).xe := passes_of (X := (cxOf (L2.CX P w) P w K mg base N_turned "turned" (defScope s_turned) (He.ga K "turned") cdv A outer s0 H0 E)) rfl
  have hu := hr.units
  exact (s_one (s_ret (e_tup (a_cons (e_una u_neg (e_ix (e_var (pv 0)) e_int)) (a_cons (e_ix (e_var (pv 0)) e_int) a_nil)))))
theorem sc_minus : FnScope N_minus ["one", "other", "manner"] (defScope s_minus) := ⟨rfl, rfl, rfl, by decide +kernel, rfl, by decide +kernel, by decide +kernel⟩
theorem ok_minus (Z : Top w K mg) : OkD P w K mg base T 7 "minus" 3 d_minus := by
  obtain ⟨fd, Fd⟩ := Z.f_minus
  refine ⟨⟨fd, ["one", "other", "manner"], fn_ok Fd sc_minus rfl fun cdv A outer s0 H0 E F0 hr => ?_, Fd.bindsN (ps := ["one", "other", "manner"]) (fun _ _ _ _ _ _ us hl => match us, hl with | [_, _, _], _ => rfl)⟩, Fd.kp, Z.m_minus⟩
  have tk : Takes (cxOf (L2.CX P w) P w K mg base N_minus "minus" (defScope s_minus) (He.ga K "minus") cdv A outer s0 H0 E) (WofE E) := takes_of rfl rfl rfl rfl
  have po : PassesOwn (model P w) (cxOf (L2.CX P w) P w K mg base N_minus "minus" (defScope s_minus) (He.ga K "minus") cdv A outer s0 H0 E).A (cxOf (L2.CX P w) P w K mg base N_minus "minus" (defScope s_minus) (He.ga K "minus") cdv A outer s0 H0 E).env (cxOf (L2.CX P w) P w K mg base N_minus "minus" (defScope s_minus) (He.ga K "minus") cdv A outer s0 H0 E).xe := passes_of (X := (cxOf (L2.CX P w) P w K mg base N_minus "minus" (defScope s_minus) (He.ga K "minus") cdv A outer s0 H0 E)) rfl
  have hu := hr.units
  exact (s_one (s_ret (e_call (ok_plus Z) hr tk rfl (a_cons (e_var (pv 0)) (a_cons (e_call (ok_turned Z) hr tk rfl (a_cons (e_var (pv 1)) a_nil)) (a_cons (e_var (pv 2)) a_nil))))))
theorem sc_times : FnScope N_times ["one", "other", "manner"] (defScope s_times) := ⟨rfl, rfl, rfl, by decide +kernel, rfl, by decide +kernel, by decide +kernel⟩
theorem ok_times (Z : Top w K mg) : OkD P w K mg base T 6 "times" 3 d_times := by
  obtain ⟨fd, Fd⟩ := Z.f_times
  refine ⟨⟨fd, ["one", "other", "manner"], fn_ok Fd sc_times rfl fun cdv A outer s0 H0 E F0 hr => ?_, Fd.bindsN (ps := ["one", "other", "manner"]) (fun _ _ _ _ _ _ us hl => match us, hl with | [_, _, _], _ => rfl)⟩, Fd.kp, Z.m_times⟩
  have tk : Takes (cxOf (L2.CX P w) P w K mg base N_times "times" (defScope s_times) (He.ga K "times") cdv A outer s0 H0 E) (WofE E) := takes_of rfl rfl rfl rfl
  have po : PassesOwn (model P w) (cxOf (L2.CX P w) P w K mg base N_times "times" (defScope s_times) (He.ga K "times") cdv A outer s0 H0 E).A (cxOf (L2.CX P w) P w K mg base N_times "times" (defScope s_times) (He.ga K "times") cdv A outer s0 H0 E).env (cxOf (L2.CX P w) P w K mg base N_times "times" (defScope s_times) (He.ga K "times") cdv A outer s0 H0 E).xe := passes_of (X := (cxOf (L2.CX P w) P w K mg base N_times "times" (defScope s_times) (He.ga K "times") cdv A outer s0 H0 E)) rfl
  have hu := hr.units
  exact (s_one (s_ret (e_call (ok_of_power Z) hr tk rfl (a_cons (e_bin o_mul (e_ix (e_var (pv 0)) e_int) (e_ix (e_var (pv 1)) e_int)) (a_cons (e_bin o_add (e_ix (e_var (pv 0)) e_int) (e_ix (e_var (pv 1)) e_int)) (a_cons (e_var (pv 2)) a_nil))))))
theorem sc_over : FnScope N_over ["one", "other", "manner"] (defScope s_over) := ⟨rfl, rfl, rfl, by decide +kernel, rfl, by decide +kernel, by decide +kernel⟩
theorem ok_over (Z : Top w K mg) : OkD P w K mg base T 5 "over" 3 d_over := by
  obtain ⟨fd, Fd⟩ := Z.f_over
  refine ⟨⟨fd, ["one", "other", "manner"], fn_ok Fd sc_over rfl fun cdv A outer s0 H0 E F0 hr => ?_, Fd.bindsN (ps := ["one", "other", "manner"]) (fun _ _ _ _ _ _ us hl => match us, hl with | [_, _, _], _ => rfl)⟩, Fd.kp, Z.m_over⟩
  have tk : Takes (cxOf (L2.CX P w) P w K mg base N_over "over" (defScope s_over) (He.ga K "over") cdv A outer s0 H0 E) (WofE E) := takes_of rfl rfl rfl rfl
  have po : PassesOwn (model P w) (cxOf (L2.CX P w) P w K mg base N_over "over" (defScope s_over) (He.ga K "over") cdv A outer s0 H0 E).A (cxOf (L2.CX P w) P w K mg base N_over "over" (defScope s_over) (He.ga K "over") cdv A outer s0 H0 E).env (cxOf (L2.CX P w) P w K mg base N_over "over" (defScope s_over) (He.ga K "over") cdv A outer s0 H0 E).xe := passes_of (X := (cxOf (L2.CX P w) P w K mg base N_over "over" (defScope s_over) (He.ga K "over") cdv A outer s0 H0 E)) rfl
  have hu := hr.units
  exact (s_cons (s_if (q_cmp (o_eq hu) (e_ix (e_var (pv 1)) e_int) e_int (nomark _)) (s_one (s_raise Z.e_NoDeed rfl tk rfl)) s_nil)
    (s_cons (s_asg (e_bin o_sub (e_ix (e_var (pv 0)) e_int) (e_ix (e_var (pv 1)) e_int)) (g_name (pg_name (i := 3) sc_over.nd rfl (Or.inl rfl))))
    (s_one (s_ret (e_call (ok_exact Z) hr tk rfl (a_cons (e_bin o_mul (e_ix (e_var (pv 0)) e_int) (e_call (ok_ten Z) hr tk rfl (a_cons (e_callB (c_max rfl) rfl Z.b_max bt_max (a_cons (e_var (pv 3)) (a_cons e_int a_nil))) a_nil))) (a_cons (e_bin o_mul (e_ix (e_var (pv 1)) e_int) (e_call (ok_ten Z) hr tk rfl (a_cons (e_callB (c_max rfl) rfl Z.b_max bt_max (a_cons (e_una u_neg (e_var (pv 3))) (a_cons e_int a_nil))) a_nil))) (a_cons (e_var (pv 2)) a_nil))))))))
theorem sc_less : FnScope N_less ["one", "other"] (defScope s_less) := ⟨rfl, rfl, rfl, by decide +kernel, rfl, by decide +kernel, by decide +kernel⟩
theorem ok_less (Z : Top w K mg) : OkD P w K mg base T 3 "less" 2 d_less := by
  obtain ⟨fd, Fd⟩ := Z.f_less
  refine ⟨⟨fd, ["one", "other"], fn_ok Fd sc_less rfl fun cdv A outer s0 H0 E F0 hr => ?_, Fd.bindsN (ps := ["one", "other"]) (fun _ _ _ _ _ _ us hl => match us, hl with | [_, _], _ => rfl)⟩, Fd.kp, Z.m_less⟩
  have tk : Takes (cxOf (L2.CX P w) P w K mg base N_less "less" (defScope s_less) (He.ga K "less") cdv A outer s0 H0 E) (WofE E) := takes_of rfl rfl rfl rfl
  have po : PassesOwn (model P w) (cxOf (L2.CX P w) P w K mg base N_less "less" (defScope s_less) (He.ga K "less") cdv A outer s0 H0 E).A (cxOf (L2.CX P w) P w K mg base N_less "less" (defScope s_less) (He.ga K "less") cdv A outer s0 H0 E).env (cxOf (L2.CX P w) P w K mg base N_less "less" (defScope s_less) (He.ga K "less") cdv A outer s0 H0 E).xe := passes_of (X := (cxOf (L2.CX P w) P w K mg base N_less "less" (defScope s_less) (He.ga K "less") cdv A outer s0 H0 E)) rfl
  have hu := hr.units
  exact (s_cons (s_asg (e_call (ok_level Z) hr tk rfl (a_cons (e_var (pv 0)) (a_cons (e_var (pv 1)) a_nil))) (g_tup rfl (gs_cons (g_name (pg_name (i := 2) sc_less.nd rfl (Or.inl rfl))) (gs_cons (g_name (pg_name (i := 3) sc_less.nd rfl (Or.inl rfl))) (gs_cons (g_name (pg_name (i := 4) sc_less.nd rfl (Or.inl rfl))) gs_nil)))))
    (s_one (s_ret (e_cmp o_lt (e_var (pv 2)) (e_var (pv 3)) (nomark _)))))
theorem sc__law_cell_at : FnScope N__law_cell_at ["script", "k"] (defScope s__law_cell_at) := ⟨rfl, rfl, rfl, by decide +kernel, rfl, by decide +kernel, by decide +kernel⟩
theorem ok__law_cell_at (Z : Top w K mg) : OkD P w K mg base T 1 "_law_cell_at" 2 d__law_cell_at := by
  obtain ⟨fd, Fd⟩ := Z.f__law_cell_at
  refine ⟨⟨fd, ["script", "k"], fn_ok Fd sc__law_cell_at rfl fun cdv A outer s0 H0 E F0 hr => ?_, Fd.bindsN (ps := ["script", "k"]) (fun _ _ _ _ _ _ us hl => match us, hl with | [_, _], _ => rfl)⟩, Fd.kp, Z.m__law_cell_at⟩
  have tk : Takes (cxOf (L2.CX P w) P w K mg base N__law_cell_at "_law_cell_at" (defScope s__law_cell_at) (He.ga K "_law_cell_at") cdv A outer s0 H0 E) (WofE E) := takes_of rfl rfl rfl rfl
  have po : PassesOwn (model P w) (cxOf (L2.CX P w) P w K mg base N__law_cell_at "_law_cell_at" (defScope s__law_cell_at) (He.ga K "_law_cell_at") cdv A outer s0 H0 E).A (cxOf (L2.CX P w) P w K mg base N__law_cell_at "_law_cell_at" (defScope s__law_cell_at) (He.ga K "_law_cell_at") cdv A outer s0 H0 E).env (cxOf (L2.CX P w) P w K mg base N__law_cell_at "_law_cell_at" (defScope s__law_cell_at) (He.ga K "_law_cell_at") cdv A outer s0 H0 E).xe := passes_of (X := (cxOf (L2.CX P w) P w K mg base N__law_cell_at "_law_cell_at" (defScope s__law_cell_at) (He.ga K "_law_cell_at") cdv A outer s0 H0 E)) rfl
  have hu := hr.units
  exact (s_cons (s_if (q_cmp o_lt (e_var (pv 1)) (e_callB c_len rfl Z.b_len bt_len (a_cons (e_var (pv 0)) a_nil)) (nomark _)) (s_one (s_ret (e_ix (e_var (pv 0)) (e_var (pv 1))))) s_nil)
    (s_one (s_ret e_int)))
theorem sc__law_mixed : FnScope N__law_mixed ["script", "k"] (defScope s__law_mixed) := ⟨rfl, rfl, rfl, by decide +kernel, rfl, by decide +kernel, by decide +kernel⟩
theorem ok__law_mixed (Z : Top w K mg) : OkD P w K mg base T 2 "_law_mixed" 2 d__law_mixed := by
  obtain ⟨fd, Fd⟩ := Z.f__law_mixed
  refine ⟨⟨fd, ["script", "k"], fn_ok Fd sc__law_mixed rfl fun cdv A outer s0 H0 E F0 hr => ?_, Fd.bindsN (ps := ["script", "k"]) (fun _ _ _ _ _ _ us hl => match us, hl with | [_, _], _ => rfl)⟩, Fd.kp, Z.m__law_mixed⟩
  have tk : Takes (cxOf (L2.CX P w) P w K mg base N__law_mixed "_law_mixed" (defScope s__law_mixed) (He.ga K "_law_mixed") cdv A outer s0 H0 E) (WofE E) := takes_of rfl rfl rfl rfl
  have po : PassesOwn (model P w) (cxOf (L2.CX P w) P w K mg base N__law_mixed "_law_mixed" (defScope s__law_mixed) (He.ga K "_law_mixed") cdv A outer s0 H0 E).A (cxOf (L2.CX P w) P w K mg base N__law_mixed "_law_mixed" (defScope s__law_mixed) (He.ga K "_law_mixed") cdv A outer s0 H0 E).env (cxOf (L2.CX P w) P w K mg base N__law_mixed "_law_mixed" (defScope s__law_mixed) (He.ga K "_law_mixed") cdv A outer s0 H0 E).xe := passes_of (X := (cxOf (L2.CX P w) P w K mg base N__law_mixed "_law_mixed" (defScope s__law_mixed) (He.ga K "_law_mixed") cdv A outer s0 H0 E)) rfl
  have hu := hr.units
  exact (s_cons (s_asg (e_bin o_mod (e_bin o_mul (e_bin o_add (e_bin o_add (e_call (ok__law_cell_at Z) hr tk rfl (a_cons (e_var (pv 0)) (a_cons (e_var (pv 1)) a_nil))) (e_bin o_mul e_int (e_var (pv 1)))) e_int) e_int) e_int) (g_name (pg_name (i := 2) sc__law_mixed.nd rfl (Or.inl rfl))))
    (s_one (s_ret (e_bin o_mod (e_bin o_add (e_bin o_add (e_bin o_mul (e_var (pv 2)) (e_var (pv 2))) (e_bin o_mul e_int (e_var (pv 2)))) (e_var (pv 1))) e_int))))
theorem sc__law_drawn : FnScope N__law_drawn ["number", "k"] (defScope s__law_drawn) := ⟨rfl, rfl, rfl, by decide +kernel, rfl, by decide +kernel, by decide +kernel⟩
theorem ok__law_drawn (Z : Top w K mg) : OkD P w K mg base T 1 "_law_drawn" 2 d__law_drawn := by
  obtain ⟨fd, Fd⟩ := Z.f__law_drawn
  refine ⟨⟨fd, ["number", "k"], fn_ok Fd sc__law_drawn rfl fun cdv A outer s0 H0 E F0 hr => ?_, Fd.bindsN (ps := ["number", "k"]) (fun _ _ _ _ _ _ us hl => match us, hl with | [_, _], _ => rfl)⟩, Fd.kp, Z.m__law_drawn⟩
  have tk : Takes (cxOf (L2.CX P w) P w K mg base N__law_drawn "_law_drawn" (defScope s__law_drawn) (He.ga K "_law_drawn") cdv A outer s0 H0 E) (WofE E) := takes_of rfl rfl rfl rfl
  have po : PassesOwn (model P w) (cxOf (L2.CX P w) P w K mg base N__law_drawn "_law_drawn" (defScope s__law_drawn) (He.ga K "_law_drawn") cdv A outer s0 H0 E).A (cxOf (L2.CX P w) P w K mg base N__law_drawn "_law_drawn" (defScope s__law_drawn) (He.ga K "_law_drawn") cdv A outer s0 H0 E).env (cxOf (L2.CX P w) P w K mg base N__law_drawn "_law_drawn" (defScope s__law_drawn) (He.ga K "_law_drawn") cdv A outer s0 H0 E).xe := passes_of (X := (cxOf (L2.CX P w) P w K mg base N__law_drawn "_law_drawn" (defScope s__law_drawn) (He.ga K "_law_drawn") cdv A outer s0 H0 E)) rfl
  have hu := hr.units
  exact (s_cons (s_asg (e_bin o_mod (e_bin o_mul (e_bin o_add (e_bin o_add (e_var (pv 0)) (e_bin o_mul e_int (e_var (pv 1)))) e_int) e_int) e_int) (g_name (pg_name (i := 2) sc__law_drawn.nd rfl (Or.inl rfl))))
    (s_one (s_ret (e_bin o_mod (e_bin o_add (e_bin o_add (e_bin o_mul (e_var (pv 2)) (e_var (pv 2))) (e_bin o_mul e_int (e_var (pv 2)))) (e_var (pv 1))) e_int))))
theorem sc__law_ten : FnScope N__law_ten ["power"] (defScope s__law_ten) := ⟨rfl, rfl, rfl, by decide +kernel, rfl, by decide +kernel, by decide +kernel⟩
theorem ok__law_ten (Z : Top w K mg) : OkD P w K mg base T 1 "_law_ten" 1 d__law_ten := by
  obtain ⟨fd, Fd⟩ := Z.f__law_ten
  refine ⟨⟨fd, ["power"], fn_ok Fd sc__law_ten rfl fun cdv A outer s0 H0 E F0 hr => ?_, Fd.bindsN (ps := ["power"]) (fun _ _ _ _ _ _ us hl => match us, hl with | [_], _ => rfl)⟩, Fd.kp, Z.m__law_ten⟩
  have tk : Takes (cxOf (L2.CX P w) P w K mg base N__law_ten "_law_ten" (defScope s__law_ten) (He.ga K "_law_ten") cdv A outer s0 H0 E) (WofE E) := takes_of rfl rfl rfl rfl
  have po : PassesOwn (model P w) (cxOf (L2.CX P w) P w K mg base N__law_ten "_law_ten" (defScope s__law_ten) (He.ga K "_law_ten") cdv A outer s0 H0 E).A (cxOf (L2.CX P w) P w K mg base N__law_ten "_law_ten" (defScope s__law_ten) (He.ga K "_law_ten") cdv A outer s0 H0 E).env (cxOf (L2.CX P w) P w K mg base N__law_ten "_law_ten" (defScope s__law_ten) (He.ga K "_law_ten") cdv A outer s0 H0 E).xe := passes_of (X := (cxOf (L2.CX P w) P w K mg base N__law_ten "_law_ten" (defScope s__law_ten) (He.ga K "_law_ten") cdv A outer s0 H0 E)) rfl
  have hu := hr.units
  exact (s_cons (s_asg e_int (g_name (pg_name (i := 1) sc__law_ten.nd rfl (Or.inl rfl))))
    (s_cons (s_for po rfl (i_rng1 rfl Z.b_range (a_cons (e_var (pv 0)) a_nil)) (g_name (pg_name (i := 2) sc__law_ten.nd rfl (Or.inl rfl))) (s_one (s_asg (e_bin o_mul (e_var (pv 1)) e_int) (g_name (pg_name (i := 1) sc__law_ten.nd rfl (Or.inl rfl))))))
    (s_one (s_ret (e_var (pv 1))))))
theorem sc__law_height : FnScope N__law_height ["number"] (defScope s__law_height) := ⟨rfl, rfl, rfl, by decide +kernel, rfl, by decide +kernel, by decide +kernel⟩
theorem ok__law_height (Z : Top w K mg) : OkD P w K mg base T 1 "_law_height" 1 d__law_height := by
  obtain ⟨fd, Fd⟩ := Z.f__law_height
  refine ⟨⟨fd, ["number"], fn_ok Fd sc__law_height rfl fun cdv A outer s0 H0 E F0 hr => ?_, Fd.bindsN (ps := ["number"]) (fun _ _ _ _ _ _ us hl => match us, hl with | [_], _ => rfl)⟩, Fd.kp, Z.m__law_height⟩
  have tk : Takes (cxOf (L2.CX P w) P w K mg base N__law_height "_law_height" (defScope s__law_height) (He.ga K "_law_height") cdv A outer s0 H0 E) (WofE E) := takes_of rfl rfl rfl rfl
  have po : PassesOwn (model P w) (cxOf (L2.CX P w) P w K mg base N__law_height "_law_height" (defScope s__law_height) (He.ga K "_law_height") cdv A outer s0 H0 E).A (cxOf (L2.CX P w) P w K mg base N__law_height "_law_height" (defScope s__law_height) (He.ga K "_law_height") cdv A outer s0 H0 E).env (cxOf (L2.CX P w) P w K mg base N__law_height "_law_height" (defScope s__law_height) (He.ga K "_law_height") cdv A outer s0 H0 E).xe := passes_of (X := (cxOf (L2.CX P w) P w K mg base N__law_height "_law_height" (defScope s__law_height) (He.ga K "_law_height") cdv A outer s0 H0 E)) rfl
  have hu := hr.units
  exact (s_one (s_ret (e_bin o_sub (e_bin o_add (e_ix (e_var (pv 0)) e_int) (e_callB c_len rfl Z.b_len bt_len (a_cons (e_callTy c_str rfl Z.b_str bt_str (a_cons (e_callB c_abs rfl Z.b_abs bt_abs (a_cons (e_ix (e_var (pv 0)) e_int) a_nil)) a_nil)) a_nil))) e_int)))
theorem sc__law_tidy : FnScope N__law_tidy ["digits", "power"] (defScope s__law_tidy) := ⟨rfl, rfl, rfl, by decide +kernel, rfl, by decide +kernel, by decide +kernel⟩
theorem ok__law_tidy (Z : Top w K mg) : OkD P w K mg base T 1 "_law_tidy" 2 d__law_tidy := by
  obtain ⟨fd, Fd⟩ := Z.f__law_tidy
  refine ⟨⟨fd, ["digits", "power"], fn_ok Fd sc__law_tidy rfl fun cdv A outer s0 H0 E F0 hr => ?_, Fd.bindsN (ps := ["digits", "power"]) (fun _ _ _ _ _ _ us hl => match us, hl with | [_, _], _ => rfl)⟩, Fd.kp, Z.m__law_tidy⟩
  have tk : Takes (cxOf (L2.CX P w) P w K mg base N__law_tidy "_law_tidy" (defScope s__law_tidy) (He.ga K "_law_tidy") cdv A outer s0 H0 E) (WofE E) := takes_of rfl rfl rfl rfl
  have po : PassesOwn (model P w) (cxOf (L2.CX P w) P w K mg base N__law_tidy "_law_tidy" (defScope s__law_tidy) (He.ga K "_law_tidy") cdv A outer s0 H0 E).A (cxOf (L2.CX P w) P w K mg base N__law_tidy "_law_tidy" (defScope s__law_tidy) (He.ga K "_law_tidy") cdv A outer s0 H0 E).env (cxOf (L2.CX P w) P w K mg base N__law_tidy "_law_tidy" (defScope s__law_tidy) (He.ga K "_law_tidy") cdv A outer s0 H0 E).xe := passes_of (X := (cxOf (L2.CX P w) P w K mg base N__law_tidy "_law_tidy" (defScope s__law_tidy) (He.ga K "_law_tidy") cdv A outer s0 H0 E)) rfl
  have hu := hr.units
  exact (s_cons (s_if (q_cmp (o_eq hu) (e_var (pv 0)) e_int (nomark _)) (s_one (s_ret (e_tup (a_cons e_int (a_cons e_int a_nil))))) s_nil)
    (s_cons (s_while 100000 po (q_cmp (o_eq hu) (e_bin o_mod (e_var (pv 0)) e_int) e_int (nomark _)) (s_cons (s_asg (e_bin o_div (e_var (pv 0)) e_int) (g_name (pg_name (i := 0) sc__law_tidy.nd rfl (Or.inl rfl))))
    (s_one (s_asg (e_bin o_add (e_var (pv 1)) e_int) (g_name (pg_name (i := 1) sc__law_tidy.nd rfl (Or.inl rfl)))))))
    (s_one (s_ret (e_tup (a_cons (e_var (pv 0)) (a_cons (e_var (pv 1)) a_nil)))))))
theorem sc__law_number : FnScope N__law_number ["number"] (defScope s__law_number) := ⟨rfl, rfl, rfl, by decide +kernel, rfl, by decide +kernel, by decide +kernel⟩
theorem ok__law_number (Z : Top w K mg) : OkD P w K mg base T 2 "_law_number" 1 d__law_number := by
  obtain ⟨fd, Fd⟩ := Z.f__law_number
  refine ⟨⟨fd, ["number"], fn_ok Fd sc__law_number rfl fun cdv A outer s0 H0 E F0 hr => ?_, Fd.bindsN (ps := ["number"]) (fun _ _ _ _ _ _ us hl => match us, hl with | [_], _ => rfl)⟩, Fd.kp, Z.m__law_number⟩
  have tk : Takes (cxOf (L2.CX P w) P w K mg base N__law_number "_law_number" (defScope s__law_number) (He.ga K "_law_number") cdv A outer s0 H0 E) (WofE E) := takes_of rfl rfl rfl rfl
  have po : PassesOwn (model P w) (cxOf (L2.CX P w) P w K mg base N__law_number "_law_number" (defScope s__law_number) (He.ga K "_law_number") cdv A outer s0 H0 E).A (cxOf (L2.CX P w) P w K mg base N__law_number "_law_number" (defScope s__law_number) (He.ga K "_law_number") cdv A outer s0 H0 E).env (cxOf (L2.CX P w) P w K mg base N__law_number "_law_number" (defScope s__law_number) (He.ga K "_law_number") cdv A outer s0 H0 E).xe := passes_of (X := (cxOf (L2.CX P w) P w K mg base N__law_number "_law_number" (defScope s__law_number) (He.ga K "_law_number") cdv A outer s0 H0 E)) rfl
  have hu := hr.units
  exact (s_cons (s_asg (e_ix (e_tup (a_cons e_int (a_cons e_int (a_cons e_int (a_cons e_int (a_cons e_int (a_cons e_int (a_cons e_int (a_cons e_int a_nil))))))))) (e_bin o_mod (e_var (pv 0)) e_int)) (g_name (pg_name (i := 1) sc__law_number.nd rfl (Or.inl rfl))))
    (s_cons (s_asg (e_bin o_mod (e_bin o_div (e_var (pv 0)) e_int) (e_var (pv 1))) (g_name (pg_name (i := 2) sc__law_number.nd rfl (Or.inl rfl))))
    (s_cons (s_asg (e_bin o_div (e_call (ok__law_drawn Z) hr tk rfl (a_cons (e_var (pv 0)) (a_cons e_int a_nil))) e_int) (g_name (pg_name (i := 3) sc__law_number.nd rfl (Or.inl rfl))))
    (s_cons (s_asg (e_ix (e_tup (a_cons e_int (a_cons e_int (a_cons (e_una u_neg e_int) (a_cons (e_una u_neg e_int) (a_cons e_int (a_cons (e_una u_neg e_int) (a_cons (e_bin o_sub (e_bin o_mod (e_bin o_div (e_var (pv 3)) e_int) e_int) e_int) (a_cons (e_bin o_sub (e_bin o_mod (e_bin o_div (e_var (pv 3)) e_int) e_int) e_int) a_nil))))))))) (e_bin o_mod (e_var (pv 3)) e_int)) (g_name (pg_name (i := 4) sc__law_number.nd rfl (Or.inl rfl))))
    (s_cons (s_asg (e_call (ok__law_tidy Z) hr tk rfl (a_cons (e_var (pv 2)) (a_cons (e_var (pv 4)) a_nil))) (g_tup rfl (gs_cons (g_name (pg_name (i := 2) sc__law_number.nd rfl (Or.inl rfl))) (gs_cons (g_name (pg_name (i := 4) sc__law_number.nd rfl (Or.inl rfl))) gs_nil))))
    (s_cons (s_asg (e_bin o_sub (e_callB c_len rfl Z.b_len bt_len (a_cons (e_callTy c_str rfl Z.b_str bt_str (a_cons (e_var (pv 2)) a_nil)) a_nil)) e_int) (g_name (pg_name (i := 5) sc__law_number.nd rfl (Or.inl rfl))))
    (s_cons (s_asg (e_bin o_mul (e_callB (c_max rfl) rfl Z.b_max bt_max (a_cons (e_bin o_sub (e_una u_neg e_int) (e_var (pv 5))) (a_cons (e_callB (c_min rfl) rfl Z.b_min bt_min (a_cons (e_var (pv 4)) (a_cons (e_bin o_sub e_int (e_var (pv 5))) a_nil))) a_nil))) (e_callTy c_int rfl Z.b_int bt_int (a_cons (e_cmp o_gt (e_var (pv 2)) e_int (nomark _)) a_nil))) (g_name (pg_name (i := 4) sc__law_number.nd rfl (Or.inl rfl))))
    (s_one (s_ret (e_tup (a_cons (e_bin o_mul (e_var (pv 2)) (e_bin o_sub e_int (e_bin o_mul (e_bin o_mod (e_bin o_div (e_var (pv 3)) e_int) e_int) e_int))) (a_cons (e_var (pv 4)) a_nil))))))))))))
theorem sc__law_exact : FnScope N__law_exact ["upper", "lower", "manner"] (defScope s__law_exact) := ⟨rfl, rfl, rfl, by decide +kernel, rfl, by decide +kernel, by decide +kernel⟩
theorem ok__law_exact (Z : Top w K mg) : OkD P w K mg base T 2 "_law_exact" 3 d__law_exact := by
  obtain ⟨fd, Fd⟩ := Z.f__law_exact
  refine ⟨⟨fd, ["upper", "lower", "manner"], fn_ok Fd sc__law_exact rfl fun cdv A outer s0 H0 E F0 hr => ?_, Fd.bindsN (ps := ["upper", "lower", "manner"]) (fun _ _ _ _ _ _ us hl => match us, hl with | [_, _, _], _ => rfl)⟩, Fd.kp, Z.m__law_exact⟩
  have tk : Takes (cxOf (L2.CX P w) P w K mg base N__law_exact "_law_exact" (defScope s__law_exact) (He.ga K "_law_exact") cdv A outer s0 H0 E) (WofE E) := takes_of rfl rfl rfl rfl
  have po : PassesOwn (model P w) (cxOf (L2.CX P w) P w K mg base N__law_exact "_law_exact" (defScope s__law_exact) (He.ga K "_law_exact") cdv A outer s0 H0 E).A (cxOf (L2.CX P w) P w K mg base N__law_exact "_law_exact" (defScope s__law_exact) (He.ga K "_law_exact") cdv A outer s0 H0 E).env (cxOf (L2.CX P w) P w K mg base N__law_exact "_law_exact" (defScope s__law_exact) (He.ga K "_law_exact") cdv A outer s0 H0 E).xe := passes_of (X := (cxOf (L2.CX P w) P w K mg base N__law_exact "_law_exact" (defScope s__law_exact) (He.ga K "_law_exact") cdv A outer s0 H0 E)) rfl
  have hu := hr.units
  exact (s_cons (s_if (q_cmp o_lt (e_var (pv 1)) e_int (nomark _)) (s_cons (s_asg (e_una u_neg (e_var (pv 0))) (g_name (pg_name (i := 0) sc__law_exact.nd rfl (Or.inl rfl))))
    (s_one (s_asg (e_una u_neg (e_var (pv 1))) (g_name (pg_name (i := 1) sc__law_exact.nd rfl (Or.inl rfl)))))) s_nil)
    (s_cons (s_if (q_cmp (o_eq hu) (e_var (pv 0)) e_int (nomark _)) (s_one (s_ret (e_tup (a_cons e_int (a_cons e_int a_nil))))) s_nil)
    (s_cons (s_asg (e_bin o_sub (e_bin o_sub (e_callB c_len rfl Z.b_len bt_len (a_cons (e_callTy c_str rfl Z.b_str bt_str (a_cons (e_callB c_abs rfl Z.b_abs bt_abs (a_cons (e_var (pv 0)) a_nil)) a_nil)) a_nil)) (e_callB c_len rfl Z.b_len bt_len (a_cons (e_callTy c_str rfl Z.b_str bt_str (a_cons (e_var (pv 1)) a_nil)) a_nil))) e_int) (g_name (pg_name (i := 3) sc__law_exact.nd rfl (Or.inl rfl))))
    (s_cons (s_while 100000 po (q_cmp o_lt (e_bin o_mul (e_callB c_abs rfl Z.b_abs bt_abs (a_cons (e_var (pv 0)) a_nil)) (e_call (ok__law_ten Z) hr tk rfl (a_cons (e_callB (c_max rfl) rfl Z.b_max bt_max (a_cons (e_una u_neg (e_var (pv 3))) (a_cons e_int a_nil))) a_nil))) (e_bin o_mul (e_var (pv 1)) (e_call (ok__law_ten Z) hr tk rfl (a_cons (e_bin o_add (e_callB (c_max rfl) rfl Z.b_max bt_max (a_cons (e_var (pv 3)) (a_cons e_int a_nil))) e_int) a_nil))) (nomark _)) (s_one (s_asg (e_bin o_sub (e_var (pv 3)) e_int) (g_name (pg_name (i := 3) sc__law_exact.nd rfl (Or.inl rfl))))))
    (s_cons (s_asg (e_bin o_mul (e_var (pv 0)) (e_call (ok__law_ten Z) hr tk rfl (a_cons (e_callB (c_max rfl) rfl Z.b_max bt_max (a_cons (e_una u_neg (e_var (pv 3))) (a_cons e_int a_nil))) a_nil))) (g_name (pg_name (i := 0) sc__law_exact.nd rfl (Or.inl rfl))))
    (s_cons (s_asg (e_bin o_mul (e_var (pv 1)) (e_call (ok__law_ten Z) hr tk rfl (a_cons (e_callB (c_max rfl) rfl Z.b_max bt_max (a_cons (e_var (pv 3)) (a_cons e_int a_nil))) a_nil))) (g_name (pg_name (i := 1) sc__law_exact.nd rfl (Or.inl rfl))))
    (s_cons (s_asg (e_bin o_div (e_var (pv 0)) (e_var (pv 1))) (g_name (pg_name (i := 4) sc__law_exact.nd rfl (Or.inl rfl))))
    (s_cons (s_asg (e_bin o_sub (e_bin o_mul e_int (e_var (pv 0))) (e_bin o_mul (e_bin o_add (e_bin o_mul e_int (e_var (pv 4))) e_int) (e_var (pv 1)))) (g_name (pg_name (i := 5) sc__law_exact.nd rfl (Or.inl rfl))))
    (s_cons (s_if (q_cmp o_gt (e_bin o_mod (e_var (pv 0)) (e_var (pv 1))) e_int (nomark _)) (s_one (s_if (q_w (w_and (q_cmp (o_in hu) (e_var (pv 2)) (e_tup (a_cons e_str (a_cons e_str a_nil))) (by rfl)) (w_and1 (q_cmp (o_eq hu) (e_var (pv 5)) e_int (nomark _))))) (s_one (s_asg (e_bin o_add (e_var (pv 4)) (e_ix (e_lst (a_cons (e_bin o_mod (e_var (pv 4)) e_int) (a_cons (e_callTy c_int rfl Z.b_int bt_int (a_cons (e_cmp o_gt (e_var (pv 0)) e_int (nomark _)) a_nil)) a_nil))) (e_callTy c_int rfl Z.b_int bt_int (a_cons (e_cmp (o_eq hu) (e_var (pv 2)) e_str (nomark _)) a_nil)))) (g_name (pg_name (i := 4) sc__law_exact.nd rfl (Or.inl rfl))))) (s_one (s_if (q_cmp (o_in hu) (e_var (pv 2)) (e_tup (a_cons e_str (a_cons e_str a_nil))) (by rfl)) (s_one (s_asg (e_bin o_add (e_var (pv 4)) (e_callTy c_int rfl Z.b_int bt_int (a_cons (e_cmp o_gt (e_var (pv 5)) e_int (nomark _)) a_nil))) (g_name (pg_name (i := 4) sc__law_exact.nd rfl (Or.inl rfl))))) (s_one (s_asg (e_bin o_add (e_var (pv 4)) (e_callTy c_int rfl Z.b_int bt_int (a_cons (e_or (e_cmp (o_eq hu) (e_var (pv 2)) e_str (nomark _)) (e_one (e_and (e_cmp (o_eq hu) (e_var (pv 2)) e_str (nomark _)) (e_one (e_cmp o_lt (e_var (pv 0)) e_int (nomark _)))))) a_nil))) (g_name (pg_name (i := 4) sc__law_exact.nd rfl (Or.inl rfl))))))))) s_nil)
    (s_cons (s_asg (e_call (ok__law_tidy Z) hr tk rfl (a_cons (e_var (pv 4)) (a_cons (e_var (pv 3)) a_nil))) (g_name (pg_name (i := 6) sc__law_exact.nd rfl (Or.inl rfl))))
    (s_cons (s_if (q_cmp o_gt (e_call (ok__law_height Z) hr tk rfl (a_cons (e_var (pv 6)) a_nil)) e_int (nomark _)) (s_one (s_ret e_non)) s_nil)
    (s_cons (s_if (q_cmp o_lt (e_call (ok__law_height Z) hr tk rfl (a_cons (e_var (pv 6)) a_nil)) (e_una u_neg e_int) (nomark _)) (s_one (s_ret (e_call (ok__law_tidy Z) hr tk rfl (a_cons (e_bin o_sub (e_callTy c_int rfl Z.b_int bt_int (a_cons (e_and (e_cmp (o_eq hu) (e_var (pv 2)) e_str (nomark _)) (e_one (e_cmp o_gt (e_var (pv 0)) e_int (nomark _)))) a_nil)) (e_callTy c_int rfl Z.b_int bt_int (a_cons (e_and (e_cmp (o_eq hu) (e_var (pv 2)) e_str (nomark _)) (e_one (e_cmp o_lt (e_var (pv 0)) e_int (nomark _)))) a_nil))) (a_cons (e_una u_neg e_int) a_nil))))) s_nil)
    (s_one (s_ret (e_var (pv 6))))))))))))))))
theorem sc__law_manner : FnScope N__law_manner ["number"] (defScope s__law_manner) := ⟨rfl, rfl, rfl, by decide +kernel, rfl, by decide +kernel, by decide +kernel⟩
theorem ok__law_manner (Z : Top w K mg) : OkD P w K mg base T 1 "_law_manner" 1 d__law_manner := by
  obtain ⟨fd, Fd⟩ := Z.f__law_manner
  refine ⟨⟨fd, ["number"], fn_ok Fd sc__law_manner rfl fun cdv A outer s0 H0 E F0 hr => ?_, Fd.bindsN (ps := ["number"]) (fun _ _ _ _ _ _ us hl => match us, hl with | [_], _ => rfl)⟩, Fd.kp, Z.m__law_manner⟩
  have tk : Takes (cxOf (L2.CX P w) P w K mg base N__law_manner "_law_manner" (defScope s__law_manner) (He.ga K "_law_manner") cdv A outer s0 H0 E) (WofE E) := takes_of rfl rfl rfl rfl
  have po : PassesOwn (model P w) (cxOf (L2.CX P w) P w K mg base N__law_manner "_law_manner" (defScope s__law_manner) (He.ga K "_law_manner") cdv A outer s0 H0 E).A (cxOf (L2.CX P w) P w K mg base N__law_manner "_law_manner" (defScope s__law_manner) (He.ga K "_law_manner") cdv A outer s0 H0 E).env (cxOf (L2.CX P w) P w K mg base N__law_manner "_law_manner" (defScope s__law_manner) (He.ga K "_law_manner") cdv A outer s0 H0 E).xe := passes_of (X := (cxOf (L2.CX P w) P w K mg base N__law_manner "_law_manner" (defScope s__law_manner) (He.ga K "_law_manner") cdv A outer s0 H0 E)) rfl
  have hu := hr.units
  exact (s_one (s_ret (e_ix (e_tup (a_cons e_str (a_cons e_str (a_cons e_str (a_cons e_str (a_cons e_str a_nil)))))) (e_bin o_mod (e_var (pv 0)) e_int))))
theorem sc__law_deed : FnScope N__law_deed ["word", "one", "other", "manner"] (defScope s__law_deed) := ⟨rfl, rfl, rfl, by decide +kernel, rfl, by decide +kernel, by decide +kernel⟩
theorem ok__law_deed (Z : Top w K mg) : OkD P w K mg base T 3 "_law_deed" 4 d__law_deed := by
  obtain ⟨fd, Fd⟩ := Z.f__law_deed
  refine ⟨⟨fd, ["word", "one", "other", "manner"], fn_ok Fd sc__law_deed rfl fun cdv A outer s0 H0 E F0 hr => ?_, Fd.bindsN (ps := ["word", "one", "other", "manner"]) (fun _ _ _ _ _ _ us hl => match us, hl with | [_, _, _, _], _ => rfl)⟩, Fd.kp, Z.m__law_deed⟩
  have tk : Takes (cxOf (L2.CX P w) P w K mg base N__law_deed "_law_deed" (defScope s__law_deed) (He.ga K "_law_deed") cdv A outer s0 H0 E) (WofE E) := takes_of rfl rfl rfl rfl
  have po : PassesOwn (model P w) (cxOf (L2.CX P w) P w K mg base N__law_deed "_law_deed" (defScope s__law_deed) (He.ga K "_law_deed") cdv A outer s0 H0 E).A (cxOf (L2.CX P w) P w K mg base N__law_deed "_law_deed" (defScope s__law_deed) (He.ga K "_law_deed") cdv A outer s0 H0 E).env (cxOf (L2.CX P w) P w K mg base N__law_deed "_law_deed" (defScope s__law_deed) (He.ga K "_law_deed") cdv A outer s0 H0 E).xe := passes_of (X := (cxOf (L2.CX P w) P w K mg base N__law_deed "_law_deed" (defScope s__law_deed) (He.ga K "_law_deed") cdv A outer s0 H0 E)) rfl
  have hu := hr.units
  exact (s_cons (s_if (q_cmp (o_eq hu) (e_var (pv 0)) e_str (nomark _)) (s_cons (s_asg (e_bin o_add (e_ix (e_var (pv 1)) e_int) (e_ix (e_var (pv 2)) e_int)) (g_name (pg_name (i := 4) sc__law_deed.nd rfl (Or.inl rfl))))
    (s_one (s_ret (e_call (ok__law_exact Z) hr tk rfl (a_cons (e_bin o_mul (e_bin o_mul (e_ix (e_var (pv 1)) e_int) (e_ix (e_var (pv 2)) e_int)) (e_call (ok__law_ten Z) hr tk rfl (a_cons (e_callB (c_max rfl) rfl Z.b_max bt_max (a_cons (e_var (pv 4)) (a_cons e_int a_nil))) a_nil))) (a_cons (e_call (ok__law_ten Z) hr tk rfl (a_cons (e_callB (c_max rfl) rfl Z.b_max bt_max (a_cons (e_una u_neg (e_var (pv 4))) (a_cons e_int a_nil))) a_nil)) (a_cons (e_var (pv 3)) a_nil))))))) s_nil)
    (s_cons (s_if (q_cmp (o_eq hu) (e_var (pv 0)) e_str (nomark _)) (s_cons (s_asg (e_bin o_sub (e_ix (e_var (pv 1)) e_int) (e_ix (e_var (pv 2)) e_int)) (g_name (pg_name (i := 4) sc__law_deed.nd rfl (Or.inl rfl))))
    (s_one (s_ret (e_call (ok__law_exact Z) hr tk rfl (a_cons (e_bin o_mul (e_ix (e_var (pv 1)) e_int) (e_call (ok__law_ten Z) hr tk rfl (a_cons (e_callB (c_max rfl) rfl Z.b_max bt_max (a_cons (e_var (pv 4)) (a_cons e_int a_nil))) a_nil))) (a_cons (e_bin o_mul (e_ix (e_var (pv 2)) e_int) (e_call (ok__law_ten Z) hr tk rfl (a_cons (e_callB (c_max rfl) rfl Z.b_max bt_max (a_cons (e_una u_neg (e_var (pv 4))) (a_cons e_int a_nil))) a_nil))) (a_cons (e_var (pv 3)) a_nil))))))) s_nil)
    (s_cons (s_asg (e_bin o_sub e_int (e_bin o_mul e_int (e_callTy c_int rfl Z.b_int bt_int (a_cons (e_cmp (o_eq hu) (e_var (pv 0)) e_str (nomark _)) a_nil)))) (g_name (pg_name (i := 5) sc__law_deed.nd rfl (Or.inl rfl))))
    (s_cons (s_asg (e_callB (c_min3 rfl) rfl Z.b_min bt_min (a_cons (e_ix (e_var (pv 1)) e_int) (a_cons (e_ix (e_var (pv 2)) e_int) (a_cons e_int a_nil)))) (g_name (pg_name (i := 6) sc__law_deed.nd rfl (Or.inl rfl))))
    (s_cons (s_asg (e_bin o_mul (e_ix (e_var (pv 1)) e_int) (e_call (ok__law_ten Z) hr tk rfl (a_cons (e_bin o_sub (e_ix (e_var (pv 1)) e_int) (e_var (pv 6))) a_nil))) (g_name (pg_name (i := 7) sc__law_deed.nd rfl (Or.inl rfl))))
    (s_cons (s_asg (e_bin o_add (e_var (pv 7)) (e_bin o_mul (e_bin o_mul (e_var (pv 5)) (e_ix (e_var (pv 2)) e_int)) (e_call (ok__law_ten Z) hr tk rfl (a_cons (e_bin o_sub (e_ix (e_var (pv 2)) e_int) (e_var (pv 6))) a_nil)))) (g_name (pg_name (i := 7) sc__law_deed.nd rfl (Or.inl rfl))))
    (s_one (s_ret (e_call (ok__law_exact Z) hr tk rfl (a_cons (e_var (pv 7)) (a_cons (e_call (ok__law_ten Z) hr tk rfl (a_cons (e_una u_neg (e_var (pv 6))) a_nil)) (a_cons (e_var (pv 3)) a_nil))))))))))))
theorem sc__law_right : FnScope N__law_right ["found", "due"] (defScope s__law_right) := ⟨rfl, rfl, rfl, by decide +kernel, rfl, by decide +kernel, by decide +kernel⟩
theorem ok__law_right (Z : Top w K mg) : OkD P w K mg base T 1 "_law_right" 2 d__law_right := by
  obtain ⟨fd, Fd⟩ := Z.f__law_right
  refine ⟨⟨fd, ["found", "due"], fn_ok Fd sc__law_right rfl fun cdv A outer s0 H0 E F0 hr => ?_, Fd.bindsN (ps := ["found", "due"]) (fun _ _ _ _ _ _ us hl => match us, hl with | [_, _], _ => rfl)⟩, Fd.kp, Z.m__law_right⟩
  have tk : Takes (cxOf (L2.CX P w) P w K mg base N__law_right "_law_right" (defScope s__law_right) (He.ga K "_law_right") cdv A outer s0 H0 E) (WofE E) := takes_of rfl rfl rfl rfl
  have po : PassesOwn (model P w) (cxOf (L2.CX P w) P w K mg base N__law_right "_law_right" (defScope s__law_right) (He.ga K "_law_right") cdv A outer s0 H0 E).A (cxOf (L2.CX P w) P w K mg base N__law_right "_law_right" (defScope s__law_right) (He.ga K "_law_right") cdv A outer s0 H0 E).env (cxOf (L2.CX P w) P w K mg base N__law_right "_law_right" (defScope s__law_right) (He.ga K "_law_right") cdv A outer s0 H0 E).xe := passes_of (X := (cxOf (L2.CX P w) P w K mg base N__law_right "_law_right" (defScope s__law_right) (He.ga K "_law_right") cdv A outer s0 H0 E)) rfl
  have hu := hr.units
  exact (s_one (s_ret (e_cmp (o_eq hu) (e_var (pv 0)) (e_ix (e_lst (a_cons (e_tup (a_cons e_str (a_cons (e_var (pv 1)) a_nil))) (a_cons (e_tup (a_cons e_str (a_cons e_int a_nil))) a_nil))) (e_callTy c_int rfl Z.b_int bt_int (a_cons (e_cmp o_is (e_var (pv 1)) e_non (nomark _)) a_nil))) (nomark _))))
def N_law : List Str := ["script", "one", "other", "manner", "found", "low", "due"]
def t12_law : Rho → SR :=
  (sret (andE (bop eqD (callD 1 d_turned (acons (var 1) anil)) (mkT (acons (una negD (bop ixD (var 1) (con (.int 0)))) (acons (bop ixD (var 1) (con (.int 1))) anil)))) (andE (cal isiD (acons (var 4) (acons (con (.ty "bool")) anil))) (bop eqD (var 4) (var 6)))))
def t11_law : Rho → SR :=
  sseq (sasg (callD 2 d_less (acons (var 1) (acons (var 2) anil))) (gn 4)) (t12_law)
def t10_law : Rho → SR :=
  sseq (sasg (bop ltD (bop mulD (bop ixD (var 1) (con (.int 0))) (callD 1 d__law_ten (acons (bop subD (bop ixD (var 1) (con (.int 1))) (var 5)) anil))) (bop mulD (bop ixD (var 2) (con (.int 0))) (callD 1 d__law_ten (acons (bop subD (bop ixD (var 2) (con (.int 1))) (var 5)) anil)))) (gn 6)) (t11_law)
def t9_law : Rho → SR :=
  sseq (sasg (cal minD (acons (bop ixD (var 1) (con (.int 1))) (acons (bop ixD (var 2) (con (.int 1))) anil))) (gn 5)) (t10_law)
def t8_law : Rho → SR :=
  sseq (sif (tst (bop eqD (bop ixD (var 2) (con (.int 0))) (con (.int 0)))) (sif (tst (bop neD (var 4) (mkT (acons (con (.str "refused")) (acons (con (.int 2)) anil))))) (sret (con (.bl false))) sskip) (sif (notQ (tst (callD 2 d__law_right (acons (var 4) (acons (callD 4 d__law_deed (acons (con (.str "over")) (acons (var 1) (acons (var 2) (acons (var 3) anil))))) anil))))) (sret (con (.bl false))) sskip)) (t9_law)
def t7_law : Rho → SR :=
  sseq (sasg (toldD (callD 3 d_over (acons (var 1) (acons (var 2) (acons (var 3) anil))))) (gn 4)) (t8_law)
def t6_law : Rho → SR :=
  sseq (sif (notQ (tst (callD 2 d__law_right (acons (toldD (callD 3 d_times (acons (var 1) (acons (var 2) (acons (var 3) anil))))) (acons (callD 4 d__law_deed (acons (con (.str "times")) (acons (var 1) (acons (var 2) (acons (var 3) anil))))) anil))))) (sret (con (.bl false))) sskip) (t7_law)
def t5_law : Rho → SR :=
  sseq (sif (notQ (tst (callD 2 d__law_right (acons (toldD (callD 3 d_minus (acons (var 1) (acons (var 2) (acons (var 3) anil))))) (acons (callD 4 d__law_deed (acons (con (.str "minus")) (acons (var 1) (acons (var 2) (acons (var 3) anil))))) anil))))) (sret (con (.bl false))) sskip) (t6_law)
def t4_law : Rho → SR :=
  sseq (sif (notQ (tst (callD 2 d__law_right (acons (toldD (callD 3 d_plus (acons (var 1) (acons (var 2) (acons (var 3) anil))))) (acons (callD 4 d__law_deed (acons (con (.str "plus")) (acons (var 1) (acons (var 2) (acons (var 3) anil))))) anil))))) (sret (con (.bl false))) sskip) (t5_law)
def t3_law : Rho → SR :=
  sseq (sif (tst (bop eqD (bop modD (callD 2 d__law_mixed (acons (var 0) (acons (con (.int 3)) anil))) (con (.int 4))) (con (.int 1)))) (sseq (sasg (callD 2 d__law_tidy (acons (bop addD (bop ixD (var 1) (con (.int 0))) (bop ixD (mkT (acons (con (.int 1)) (acons (una negD (con (.int 1))) (acons (con (.int 3)) anil)))) (bop modD (bop divD (callD 2 d__law_mixed (acons (var 0) (acons (con (.int 3)) anil))) (con (.int 4))) (con (.int 3))))) (acons (bop ixD (var 1) (con (.int 1))) anil))) (gn 2))
    (sif (orQ (tst (bop gtD (cal absD (acons (bop ixD (var 2) (con (.int 0))) anil)) (con (.int 99999999)))) (notQ (tst (chn leD leD (una negD (con (.int 40))) (callD 1 d__law_height (acons (var 2) anil)) (con (.int 40)))))) (sasg (var 1) (gn 2)) sskip)) sskip) (t4_law)
def t2_law : Rho → SR :=
  sseq (sasg (callD 1 d__law_manner (acons (callD 2 d__law_mixed (acons (var 0) (acons (con (.int 2)) anil))) anil)) (gn 3)) (t3_law)
def t1_law : Rho → SR :=
  sseq (sasg (callD 1 d__law_number (acons (callD 2 d__law_mixed (acons (var 0) (acons (con (.int 1)) anil))) anil)) (gn 2)) (t2_law)
def g_law : Rho → SR :=
  sseq (sasg (callD 1 d__law_number (acons (callD 2 d__law_mixed (acons (var 0) (acons (con (.int 0)) anil))) anil)) (gn 1)) (t1_law)
def d_law (ds : List D) : Res D := runB 7 g_law ds
theorem v_law {a0 : D} : d_law [a0] = finR (g_law [.z a0, .u, .u, .u, .u, .u, .u]) := runB_eq rfl
theorem sc_law : FnScope N_law ["script"] (defScope s_law) := ⟨rfl, rfl, rfl, by decide +kernel, rfl, by decide +kernel, by decide +kernel⟩
theorem law_fn (Z : Top w K mg) (B : ∀ d ∈ tfs, LamX.TabB base mg (He.cT K d).1 (He.cT K d).2) {fd : FuncData} (Fd : FunD K "law" "law" (defArgs s_law) (defBody s_law) (defScope s_law) [] [] (He.ga K "law") fd) : FnOk P w K mg base (L2.CX P w) 10 (He.ga K "law") fd ["script"] (spD K (tabT K) 1 d_law) := by
  refine fn_okC Fd sc_law rfl fun A outer s0 H0 E F0 hr => ?_
  obtain ⟨fdt, Ft⟩ := Z.f__law_told
  have tk : Takes (cxOf (L2.CX P w) P w K mg base N_law "law" (defScope s_law) (He.ga K "law") (.ref (He.cT K ("law", none)).1) A outer s0 H0 E) (WofE E) := takes_of rfl rfl rfl rfl
  have po : PassesOwn (model P w) (cxOf (L2.CX P w) P w K mg base N_law "law" (defScope s_law) (He.ga K "law") (.ref (He.cT K ("law", none)).1) A outer s0 H0 E).A (cxOf (L2.CX P w) P w K mg base N_law "law" (defScope s_law) (He.ga K "law") (.ref (He.cT K ("law", none)).1) A outer s0 H0 E).env (cxOf (L2.CX P w) P w K mg base N_law "law" (defScope s_law) (He.ga K "law") (.ref (He.cT K ("law", none)).1) A outer s0 H0 E).xe := passes_of (X := (cxOf (L2.CX P w) P w K mg base N_law "law" (defScope s_law) (He.ga K "law") (.ref (He.cT K ("law", none)).1) A outer s0 H0 E)) rfl
  have hu := hr.units
  exact (s_cons (s_asg (e_call (ok__law_number Z) hr tk rfl (a_cons (e_call (ok__law_mixed Z) hr tk rfl (a_cons (e_var (pv 0)) (a_cons e_int a_nil))) a_nil)) (g_name (pg_name (i := 1) sc_law.nd rfl (Or.inr rfl))))
    (s_cons (s_asg (e_call (ok__law_number Z) hr tk rfl (a_cons (e_call (ok__law_mixed Z) hr tk rfl (a_cons (e_var (pv 0)) (a_cons e_int a_nil))) a_nil)) (g_name (pg_name (i := 2) sc_law.nd rfl (Or.inr rfl))))
    (s_cons (s_asg (e_call (ok__law_manner Z) hr tk rfl (a_cons (e_call (ok__law_mixed Z) hr tk rfl (a_cons (e_var (pv 0)) (a_cons e_int a_nil))) a_nil)) (g_name (pg_name (i := 3) sc_law.nd rfl (Or.inr rfl))))
    (s_cons (s_if (q_cmp (o_eq hu) (e_bin o_mod (e_call (ok__law_mixed Z) hr tk rfl (a_cons (e_var (pv 0)) (a_cons e_int a_nil))) e_int) e_int (nomark _)) (s_cons (s_asg (e_call (ok__law_tidy Z) hr tk rfl (a_cons (e_bin o_add (e_ix (e_var (pv 1)) e_int) (e_ix (e_tup (a_cons e_int (a_cons (e_una u_neg e_int) (a_cons e_int a_nil)))) (e_bin o_mod (e_bin o_div (e_call (ok__law_mixed Z) hr tk rfl (a_cons (e_var (pv 0)) (a_cons e_int a_nil))) e_int) e_int))) (a_cons (e_ix (e_var (pv 1)) e_int) a_nil))) (g_name (pg_name (i := 2) sc_law.nd rfl (Or.inr rfl))))
    (s_one (s_if (q_w (w_or (q_cmp o_gt (e_callB c_abs rfl Z.b_abs bt_abs (a_cons (e_ix (e_var (pv 2)) e_int) a_nil)) e_int (nomark _)) (w_or1 (q_not (q_chn o_le o_le (e_una u_neg e_int) (e_call (ok__law_height Z) hr tk rfl (a_cons (e_var (pv 2)) a_nil)) e_int))))) (s_one (s_asg (e_var (pv 1)) (g_name (pg_name (i := 2) sc_law.nd rfl (Or.inr rfl))))) s_nil))) s_nil)
    (s_cons (s_if (q_not (q_val (e_call (ok__law_right Z) hr tk rfl (a_cons (e_told (k := 7) (q := ("law" : Str) ++ ".<locals>." ++ "<lambda>") Ft Z.m__law_told (Ft.bindsN (ps := ["deed"]) (fun _ _ _ _ _ _ us hl => match us, hl with | [_], _ => rfl)) sc__law_told (fun _ => told_gives toldS Z.told rfl rfl rfl) (B ("law", none) (by unfold tfs; simp)) rfl rfl (by unfold tabT; simp) Z.hu_law rfl hr (by show LamX.lamSB (defScope s_law) _ = true; decide +kernel) (fun _ _ _ _ _ _ _ hr => (e_call (ok_plus Z) hr (takes_of rfl rfl rfl rfl) rfl (a_cons (e_var (pv 1)) (a_cons (e_var (pv 2)) (a_cons (e_var (pv 3)) a_nil)))))) (a_cons (e_call (ok__law_deed Z) hr tk rfl (a_cons e_str (a_cons (e_var (pv 1)) (a_cons (e_var (pv 2)) (a_cons (e_var (pv 3)) a_nil))))) a_nil))))) (s_one (s_ret e_bl)) s_nil)
    (s_cons (s_if (q_not (q_val (e_call (ok__law_right Z) hr tk rfl (a_cons (e_told (k := 7) (q := ("law" : Str) ++ ".<locals>." ++ "<lambda>") Ft Z.m__law_told (Ft.bindsN (ps := ["deed"]) (fun _ _ _ _ _ _ us hl => match us, hl with | [_], _ => rfl)) sc__law_told (fun _ => told_gives toldS Z.told rfl rfl rfl) (B ("law", none) (by unfold tfs; simp)) rfl rfl (by unfold tabT; simp) Z.hu_law rfl hr (by show LamX.lamSB (defScope s_law) _ = true; decide +kernel) (fun _ _ _ _ _ _ _ hr => (e_call (ok_minus Z) hr (takes_of rfl rfl rfl rfl) rfl (a_cons (e_var (pv 1)) (a_cons (e_var (pv 2)) (a_cons (e_var (pv 3)) a_nil)))))) (a_cons (e_call (ok__law_deed Z) hr tk rfl (a_cons e_str (a_cons (e_var (pv 1)) (a_cons (e_var (pv 2)) (a_cons (e_var (pv 3)) a_nil))))) a_nil))))) (s_one (s_ret e_bl)) s_nil)
    (s_cons (s_if (q_not (q_val (e_call (ok__law_right Z) hr tk rfl (a_cons (e_told (k := 7) (q := ("law" : Str) ++ ".<locals>." ++ "<lambda>") Ft Z.m__law_told (Ft.bindsN (ps := ["deed"]) (fun _ _ _ _ _ _ us hl => match us, hl with | [_], _ => rfl)) sc__law_told (fun _ => told_gives toldS Z.told rfl rfl rfl) (B ("law", none) (by unfold tfs; simp)) rfl rfl (by unfold tabT; simp) Z.hu_law rfl hr (by show LamX.lamSB (defScope s_law) _ = true; decide +kernel) (fun _ _ _ _ _ _ _ hr => (e_call (ok_times Z) hr (takes_of rfl rfl rfl rfl) rfl (a_cons (e_var (pv 1)) (a_cons (e_var (pv 2)) (a_cons (e_var (pv 3)) a_nil)))))) (a_cons (e_call (ok__law_deed Z) hr tk rfl (a_cons e_str (a_cons (e_var (pv 1)) (a_cons (e_var (pv 2)) (a_cons (e_var (pv 3)) a_nil))))) a_nil))))) (s_one (s_ret e_bl)) s_nil)
    (s_cons (s_asg (e_told (k := 7) (q := ("law" : Str) ++ ".<locals>." ++ "<lambda>") Ft Z.m__law_told (Ft.bindsN (ps := ["deed"]) (fun _ _ _ _ _ _ us hl => match us, hl with | [_], _ => rfl)) sc__law_told (fun _ => told_gives toldS Z.told rfl rfl rfl) (B ("law", none) (by unfold tfs; simp)) rfl rfl (by unfold tabT; simp) Z.hu_law rfl hr (by show LamX.lamSB (defScope s_law) _ = true; decide +kernel) (fun _ _ _ _ _ _ _ hr => (e_call (ok_over Z) hr (takes_of rfl rfl rfl rfl) rfl (a_cons (e_var (pv 1)) (a_cons (e_var (pv 2)) (a_cons (e_var (pv 3)) a_nil)))))) (g_name (pg_name (i := 4) sc_law.nd rfl (Or.inl rfl))))
    (s_cons (s_if (q_cmp (o_eq hu) (e_ix (e_var (pv 2)) e_int) e_int (nomark _)) (s_one (s_if (q_cmp (o_ne hu) (e_var (pv 4)) (e_tup (a_cons e_str (a_cons e_int a_nil))) (nomark _)) (s_one (s_ret e_bl)) s_nil)) (s_one (s_if (q_not (q_val (e_call (ok__law_right Z) hr tk rfl (a_cons (e_var (pv 4)) (a_cons (e_call (ok__law_deed Z) hr tk rfl (a_cons e_str (a_cons (e_var (pv 1)) (a_cons (e_var (pv 2)) (a_cons (e_var (pv 3)) a_nil))))) a_nil))))) (s_one (s_ret e_bl)) s_nil)))
    (s_cons (s_asg (e_callB (c_min rfl) rfl Z.b_min bt_min (a_cons (e_ix (e_var (pv 1)) e_int) (a_cons (e_ix (e_var (pv 2)) e_int) a_nil))) (g_name (pg_name (i := 5) sc_law.nd rfl (Or.inl rfl))))
    (s_cons (s_asg (e_cmp o_lt (e_bin o_mul (e_ix (e_var (pv 1)) e_int) (e_call (ok__law_ten Z) hr tk rfl (a_cons (e_bin o_sub (e_ix (e_var (pv 1)) e_int) (e_var (pv 5))) a_nil))) (e_bin o_mul (e_ix (e_var (pv 2)) e_int) (e_call (ok__law_ten Z) hr tk rfl (a_cons (e_bin o_sub (e_ix (e_var (pv 2)) e_int) (e_var (pv 5))) a_nil))) (nomark _)) (g_name (pg_name (i := 6) sc_law.nd rfl (Or.inl rfl))))
    (s_cons (s_asg (e_call (ok_less Z) hr tk rfl (a_cons (e_var (pv 1)) (a_cons (e_var (pv 2)) a_nil))) (g_name (pg_name (i := 4) sc_law.nd rfl (Or.inl rfl))))
    (s_one (s_ret (e_and (e_cmp (o_eq hu) (e_call (ok_turned Z) hr tk rfl (a_cons (e_var (pv 1)) a_nil)) (e_tup (a_cons (e_una u_neg (e_ix (e_var (pv 1)) e_int)) (a_cons (e_ix (e_var (pv 1)) e_int) a_nil))) (nomark _)) (e_and (e_callB c_isi rfl Z.b_isinstance bt_isinstance (a_cons (e_var (pv 4)) (a_cons (e_ty Z.b_bool bt_bool rfl) a_nil))) (e_one (e_cmp (o_eq hu) (e_var (pv 4)) (e_var (pv 6)) (nomark _)))))))))))))))))))
end
theorem x_cell {ns : List Int} {k : Int} (h : 0 ≤ k) : ∃ c, d__law_cell_at [.arr ns, .int k] = .ok (.int c) := by
  by_cases hk : k < ns.length
  · have hi : ∃ c, ixD (.arr ns) (.int k) = some (.int c) := by
      refine ⟨ns.getD k.toNat 0, ?_⟩
      show (atI ns k).map D.int = _
      unfold atI ixN
      rw [if_pos h, if_pos hk]
      show (ns[k.toNat]?).map D.int = _
      rw [List.getElem?_eq_getElem (by omega), List.getD_eq_getElem?_getD, List.getElem?_eq_getElem (by omega)]
      rfl
    obtain ⟨c, hc⟩ := hi
    exact ⟨c, by simp?! [v__law_cell_at, g__law_cell_at, t1__law_cell_at, hk, hc]⟩
  · exact ⟨0, by simp?! [v__law_cell_at, g__law_cell_at, t1__law_cell_at, hk]⟩
theorem x_mixed {ns : List Int} {k : Int} (h : 0 ≤ k) (h2 : k < 1000) : ∃ m, d__law_mixed [.arr ns, .int k] = .ok (.int m) ∧ 0 ≤ m ∧ m < 2147483629 := by
  obtain ⟨c, hc⟩ := x_cell (ns := ns) h
  simp?! [v__law_mixed, g__law_mixed, t1__law_mixed, hc]
  exact ⟨_, rfl, Int.emod_nonneg _ (by decide), Int.emod_lt_of_pos _ (by decide)⟩
theorem x_drawn {n k : Int} (h : 0 ≤ k) (h2 : k < 1000) : ∃ m, d__law_drawn [.int n, .int k] = .ok (.int m) ∧ 0 ≤ m ∧ m < 2147483629 := by
  simp?! [v__law_drawn, g__law_drawn, t1__law_drawn]
  exact ⟨_, rfl, Int.emod_nonneg _ (by decide), Int.emod_lt_of_pos _ (by decide)⟩
/-- an int of a written menu -/
theorem menu {xs : List Int} {n : Nat} (h : n < xs.length) : ∃ v, v ∈ xs ∧ (xs.map D.int).getD n .non = .int v := by
  refine ⟨xs[n], List.getElem_mem h, ?_⟩
  rw [List.getD_eq_getElem?_getD, List.getElem?_map, List.getElem?_eq_getElem h]
  rfl
/-! the law's own numbers -/
/-- the loop of tidy: what stays -/
theorem x_tidyloop : ∀ (n : Nat) (a b : Int), a ≠ 0 → a.natAbs < 10 ^ n → ∀ m, n < m → ∃ (k : Nat) (a' : Int), a = a' * 10 ^ k ∧ a' % 10 ≠ 0 ∧
    whileD c1__law_tidy b2__law_tidy m [.z (.int a), .z (.int b)] = .nx [.z (.int a'), .z (.int (b + k))]
  | 0, a, b, h, h2, m, hm => by
    have : (10 : Nat) ^ 0 = 1 := rfl
    omega
  | n + 1, a, b, h, h2, m, hm => by
    obtain ⟨m, rfl⟩ : ∃ k, m = k + 1 := ⟨m - 1, by omega⟩
    by_cases h0 : a % 10 = 0
    · obtain ⟨k, a', e1, e2, e3⟩ := x_tidyloop n (a / 10) (b + 1) (by omega) (by
        have : (10 : Nat) ^ (n + 1) = 10 ^ n * 10 := by rw [Nat.pow_succ]
        omega) m (by omega)
      refine ⟨k + 1, a', ?_, e2, ?_⟩
      · have e4 : a = a / 10 * 10 := by omega
        rw [e4, e1, Int.pow_succ, Int.mul_assoc]
      · have hc : c1__law_tidy [.z (.int a), .z (.int b)] = .ok true := by simp?! [c1__law_tidy, h0, beq_self_eq_true]
        have hb : b2__law_tidy [.z (.int a), .z (.int b)] = .nx [.z (.int (a / 10)), .z (.int (b + 1))] := by simp?! [b2__law_tidy]
        rw [while_t hc hb, e3]
        have : b + 1 + (k : Int) = b + ((k + 1 : Nat) : Int) := by omega
        rw [this]
    · refine ⟨0, a, by simp, h0, ?_⟩
      have : (a % 10 == 0) = false := by simpa using h0
      have hc : c1__law_tidy [.z (.int a), .z (.int b)] = .ok false := by simp?! [c1__law_tidy, this]
      rw [while_f hc]
      simp
theorem x_tidy {a b : Int} (h0 : a ≠ 0) (h2 : a.natAbs < 10 ^ 5000) : ∃ (k : Nat) (a' : Int), a = a' * 10 ^ k ∧ a' % 10 ≠ 0 ∧ d__law_tidy [.int a, .int b] = .ok (.tup [.int a', .int (b + k)]) := by
  obtain ⟨k, a', e1, e2, e3⟩ := x_tidyloop 5000 a b h0 h2 100000 (by decide)
  have : (a == 0) = false := by simpa using h0
  exact ⟨k, a', e1, e2, by simp?! [v__law_tidy, g__law_tidy, t1__law_tidy, t2__law_tidy, this, e3]⟩
theorem x_tidy0 {b : Int} : d__law_tidy [.int 0, .int b] = .ok (.tup [.int 0, .int 0]) := by
  simp?! [v__law_tidy, g__law_tidy, beq_self_eq_true]
theorem x_number {n : Int} (h : 0 ≤ n) (h2 : n < 2147483629) : ∃ a b, d__law_number [.int n] = .ok (.tup [.int a, .int b]) ∧ NumOk a b := by
  obtain ⟨dr, e1, e2, e3⟩ := x_drawn (n := n) (k := 1) (by omega) (by omega)
  obtain ⟨hi, m1, m2⟩ := menu (xs := [10, 100, 1000, 100000, 100000000, 3, 100000000, 10]) (n := (n % 8).toNat) (by simp; omega)
  simp only [List.map_cons, List.map_nil] at m2
  have hb : 0 < hi ∧ hi ≤ 100000000 := by
    simp at m1
    omega
  obtain ⟨pw, p1, p2⟩ := menu (xs := [0, 0, -1, -2, 3, -7, dr / 4 / 64 % 81 - 40, dr / 4 / 64 % 17 - 8]) (n := (dr / 4 % 8).toNat) (by simp; omega)
  simp only [List.map_cons, List.map_nil] at p2
  have d0 : 0 ≤ n / 8 % hi := Int.emod_nonneg _ (by omega)
  have d1 : n / 8 % hi < hi := Int.emod_lt_of_pos _ (by omega)
  have key : d__law_number [.int n] = finR (t4__law_number [.z (.int n), .z (.int hi), .z (.int (n / 8 % hi)), .z (.int (dr / 4)), .z (.int pw), .u]) := by
    simp?! [v__law_number, g__law_number, t1__law_number, t2__law_number, t3__law_number, m2, e1, p2]
  rw [key]
  generalize n / 8 % hi = dg at d0 d1
  obtain ⟨sg, hs⟩ : ∃ s : Int, s = 1 - dr / 4 / 8 % 2 * 2 ∧ (s = 1 ∨ s = -1) := ⟨_, rfl, by omega⟩
  have p8 : (10 : Nat) ^ 8 ≤ 10 ^ 500 := pow10_le (by decide)
  by_cases h0 : dg = 0
  · subst h0
    refine ⟨0, 0, ?_, .inl ⟨rfl, rfl⟩⟩
    obtain ⟨q1, q2⟩ := lenstr (i := 0) (by omega) (by decide +kernel)
    simp?! [t4__law_number, t5__law_number, t6__law_number, t7__law_number, x_tidy0, q1, q2]
    simp
  · obtain ⟨k, a, t1, t2, t3⟩ := x_tidy (a := dg) (b := pw) h0 (by
      have : (10 : Nat) ^ 8 ≤ 10 ^ 5000 := pow10_le (by decide)
      omega)
    have hp : (0 : Int) < 10 ^ k := Int.pow_pos (by decide)
    have a0 : 0 < a := by
      by_cases ha : 0 < a
      · exact ha
      · exfalso
        have : a * 10 ^ k ≤ 0 := Int.mul_nonpos_of_nonpos_of_nonneg (by omega) (by omega)
        omega
    have a1 : a ≤ dg := by
      have : a * 1 ≤ a * 10 ^ k := Int.mul_le_mul_of_nonneg_left (by omega) (by omega)
      omega
    obtain ⟨q1, q2⟩ := lenstr (i := a) (by omega) (by omega)
    have f1 := figs_pos a.natAbs
    have hd : decide (0 < a) = true := decide_eq_true a0
    simp?! [t4__law_number, t5__law_number, t6__law_number, t7__law_number, t3, q1, q2, hd, if_true, Int.mul_one, ← hs.1]
    refine ⟨_, _, rfl, .inr ?_⟩
    have na : (a * sg).natAbs = a.natAbs := by
      rcases hs.2 with e | e <;> subst e <;> simp
    rw [na]
    refine ⟨?_, ?_, by omega, ?_, ?_⟩
    · rcases hs.2 with e | e <;> subst e <;> omega
    · rcases hs.2 with e | e <;> subst e <;> omega
    · split <;> split <;> omega
    · split <;> split <;> omega
/-- ten -/
theorem dv_zeros : ∀ (k a : Nat), (List.replicate k 48).foldl (fun acc c => acc * 10 + (c - 48)) a = a * 10 ^ k
  | 0, a => by simp
  | k + 1, a => by
    rw [List.replicate_succ, List.foldl_cons, dv_zeros k]
    show (a * 10 + 0) * 10 ^ k = a * 10 ^ (k + 1)
    rw [Nat.pow_succ, Nat.add_zero, Nat.mul_assoc, Nat.mul_comm 10]
theorem int_digits {x : Str} {n : Nat} (h : NumText.AllDigits x.cps.toList) (h1 : x.cps.toList ≠ []) (h2 : x.cps.toList.length ≤ 640) (e : NumText.digitsVal x.cps.toList = n) : intD [.str x] = some (.int n) := by
  show (if x.length ≤ 640 then (PySem.intText? x).map D.int else none) = _
  rw [if_pos (by rw [s_len]; exact h2), PySem.intText_digits h h1 (by rw [s_len]; omega), e]
  rfl
theorem x_ten {k : Int} (h : 0 ≤ k) (h2 : k ≤ 600) : d_ten [.int k] = .ok (.int (10 ^ k.toNat)) := by
  have z1 : (Str.ofString "0").length = 1 := by decide +kernel
  have l1 : (repS (Str.ofString "0") k).length = k.toNat := by rw [s_len, one_s 48 "0" zero_s, List.length_replicate]
  have o1 : (Str.ofString "1").cps.toList = [49] := by decide +kernel
  have e : (Str.ofString "1" ++ repS (Str.ofString "0") k).cps.toList = 49 :: List.replicate k.toNat 48 := by
    rw [app_tl, one_s 48 "0" zero_s, o1]; rfl
  have e1 : mulD (.str (Str.ofString "0")) (.int k) = some (.str (repS (Str.ofString "0") k)) := mul_si ⟨by omega, by omega, by rw [z1]; omega⟩
  have e2 : addD (.str (Str.ofString "1")) (.str (repS (Str.ofString "0") k)) = some (.str (Str.ofString "1" ++ repS (Str.ofString "0") k)) := add_ss (by
    rw [l1]
    have : (Str.ofString "1").length = 1 := by decide +kernel
    omega)
  have e3 : intD [.str (Str.ofString "1" ++ repS (Str.ofString "0") k)] = some (.int ((10 ^ k.toNat : Nat) : Int)) := by
    refine int_digits ?_ ?_ ?_ ?_
    · rw [e]
      intro c hc
      rcases List.mem_cons.mp hc with rfl | hc
      · omega
      · have := List.eq_of_mem_replicate hc
        omega
    · rw [e]; exact List.cons_ne_nil _ _
    · rw [e, List.length_cons, List.length_replicate]; omega
    · rw [e]
      unfold NumText.digitsVal
      rw [List.foldl_cons, dv_zeros]
      simp
  simp?! [v_ten, g_ten, e1, e2, e3]
  simp
/-! heights -/
theorem x_figures {a : Int} (h : a.natAbs < 10 ^ 500) : d_figures_of [.int a] = .ok (.int (figs a.natAbs)) := by
  obtain ⟨q1, q2⟩ := lenstr (i := (a.natAbs : Int)) (by omega) h
  have q2 : lenD [.str (Str.ofString (toString (a.natAbs : Int)))] = some (.int (figs a.natAbs)) := q2
  simp?! [v_figures_of, g_figures_of, abs_if a, q1, q2]
theorem x_height {a b : Int} (h : a.natAbs < 10 ^ 500) : d_height [.tup [.int a, .int b]] = .ok (.int (b + (figs a.natAbs : Int) - 1)) := by
  simp?! [v_height, g_height, x_figures h]
theorem x_lheight {a b : Int} (h : a.natAbs < 10 ^ 500) : d__law_height [.tup [.int a, .int b]] = .ok (.int (b + (figs a.natAbs : Int) - 1)) := by
  obtain ⟨q1, q2⟩ := lenstr (i := (a.natAbs : Int)) (by omega) h
  have q2 : lenD [.str (Str.ofString (toString (a.natAbs : Int)))] = some (.int (figs a.natAbs)) := q2
  simp?! [v__law_height, g__law_height, abs_if a, q1, q2]
/-! _law_ten -/
theorem rng1_eq {f : Rho → Res (List D)} {ρ : Rho} {j : Int} (h : f ρ = .ok [.int j]) (h1 : 0 ≤ j) (h2 : j < 5000) : rng1 f ρ = .ok (rngD 0 j.toNat) := by
  unfold rng1
  rw [h]
  simp only [Res.bind]
  rw [if_pos ⟨by omega, by omega⟩]
theorem rngD_len {i : Int} {n : Nat} : (rngD i n).length = n := by unfold rngD; rw [List.length_map, List.length_range]
theorem lten_loop : ∀ (ds : List D) (a : Int) (b : D) (c : En), ∃ c', loopD (gn 2) b1__law_ten ds [.z b, .z (.int a), c] = .nx [.z b, .z (.int (a * 10 ^ ds.length)), c']
  | [], a, b, c => ⟨c, by rw [loop_nil]; simp⟩
  | d :: ds, a, b, c => by
    obtain ⟨c', h⟩ := lten_loop ds (a * 10) b (.z d)
    refine ⟨c', ?_⟩
    have hb : b1__law_ten [.z b, .z (.int a), .z d] = .nx [.z b, .z (.int (a * 10)), .z d] := by simp?! [b1__law_ten]
    rw [loop_cons (ρ1 := [.z b, .z (.int a), .z d]) rfl hb, h, List.length_cons, Int.pow_succ, Int.mul_assoc, Int.mul_comm 10]
theorem lten_t1 {n : Nat} {c : En} (hl : loopD (gn 2) b1__law_ten (rngD 0 n) [.z (.int (n : Int)), .z (.int 1), .u] = .nx [.z (.int (n : Int)), .z (.int (10 ^ n)), c]) (e : rng1 (acons (var 0) anil) [.z (.int (n : Int)), .z (.int 1), .u] = .ok (rngD 0 n)) :
    t1__law_ten [.z (.int (n : Int)), .z (.int 1), .u] = .rt (.int (10 ^ n)) := by
  unfold t1__law_ten
  rw [sseq_def, sfor_def, e, forR_ok, hl, seqR_nx]
  unfold t2__law_ten
  simp?! []
theorem lten_g {n : Int} : g__law_ten [.z (.int n), .u, .u] = t1__law_ten [.z (.int n), .z (.int 1), .u] := by
  unfold g__law_ten
  rw [sseq_def, sasg_def, con_def, asgR_n, seqR_nx, List.set_cons_succ, List.set_cons_zero]
theorem x_lten {n : Nat} (h : n ≤ 2000) : d__law_ten [.int (n : Int)] = .ok (.int (10 ^ n)) := by
  have q : acons (var 0) anil [.z (.int (n : Int)), .z (.int 1), .u] = .ok [.int (n : Int)] := by simp?! []
  have e := rng1_eq q (by omega) (by omega)
  rw [Int.toNat_natCast] at e
  obtain ⟨c', hl⟩ := lten_loop (rngD 0 n) 1 (.int (n : Int)) .u
  rw [rngD_len, Int.one_mul] at hl
  rw [v__law_ten, lten_g, lten_t1 hl e, finR_rt]
theorem x_ltenZ {k : Int} (h : 0 ≤ k) (h2 : k ≤ 2000) : d__law_ten [.int k] = .ok (.int (10 ^ k.toNat)) := by
  obtain ⟨n, rfl⟩ := Int.eq_ofNat_of_zero_le h
  rw [Int.toNat_natCast]
  exact x_lten (by omega)
/-! exact and what it calls -/
theorem x_tenN {n : Nat} (h : n ≤ 600) : d_ten [.int (n : Int)] = .ok (.int (10 ^ n)) := by
  rw [x_ten (by omega) (by omega), Int.toNat_natCast]
theorem x_ten8 : d_ten [.int 8] = .ok (.int (10 ^ 8)) := x_ten (by decide) (by decide)
theorem x_bysize (m : Mn) (b : Bool) : d_by_size [.str m.s, .bl b] = .ok (.str (m.by b).s) := by
  have e1 : ((Str.ofString "even") == (Str.ofString "up")) = false := by decide +kernel
  have e2 : ((Str.ofString "even") == (Str.ofString "down")) = false := by decide +kernel
  have e3 : ((Str.ofString "away") == (Str.ofString "up")) = false := by decide +kernel
  have e4 : ((Str.ofString "away") == (Str.ofString "down")) = false := by decide +kernel
  have e5 : ((Str.ofString "nought") == (Str.ofString "up")) = false := by decide +kernel
  have e6 : ((Str.ofString "nought") == (Str.ofString "down")) = false := by decide +kernel
  have e7 : ((Str.ofString "down") == (Str.ofString "up")) = false := by decide +kernel
  cases m <;> cases b <;> (simp?! [Mn.s, Mn.by, Hw.s, v_by_size, g_by_size, t1_by_size, t2_by_size, e1, e2, e3, e4, e5, e6, e7, beq_self_eq_true, if_true, if_false, Bool.false_eq_true]; done)
theorem x_taken (h : Hw) {q r l : Int} : d_taken [.int q, .int r, .int l, .str h.s] = .ok (.int (takenZ h q r l)) := by
  unfold takenZ
  by_cases r0 : r = 0
  · subst r0
    simp?! [v_taken, g_taken, beq_self_eq_true, if_true]
  · have er : (r == 0) = false := by simpa using r0
    rw [if_neg r0]
    have e1 : ((Str.ofString "more") == (Str.ofString "nought")) = false := by decide +kernel
    have e2 : ((Str.ofString "even") == (Str.ofString "nought")) = false := by decide +kernel
    have e3 : ((Str.ofString "away") == (Str.ofString "nought")) = false := by decide +kernel
    have e4 : ((Str.ofString "even") == (Str.ofString "more")) = false := by decide +kernel
    have e5 : ((Str.ofString "away") == (Str.ofString "more")) = false := by decide +kernel
    have e6 : ((Str.ofString "even") == (Str.ofString "away")) = false := by decide +kernel
    cases h with
    | nought => simp?! [Hw.s, v_taken, g_taken, er, beq_self_eq_true]
    | more => simp?! [Hw.s, v_taken, g_taken, t1_taken, er, e1, beq_self_eq_true]
    | even =>
      by_cases h2 : 2 * r = l
      · have e7 : (2 * r == l) = true := by simpa using h2
        by_cases h3 : q % 2 = 1
        · simp?! [Hw.s, v_taken, g_taken, t1_taken, t2_taken, er, e2, e4, e6, e7, h3, beq_self_eq_true]
          rw [if_pos h2]
        · have e8 : (q % 2 == 1) = false := by simpa using h3
          simp?! [Hw.s, v_taken, g_taken, t1_taken, t2_taken, er, e2, e4, e6, e7, e8]
          rw [if_pos h2, if_neg h3]; simp
      · have e7 : (2 * r == l) = false := by simpa using h2
        simp?! [Hw.s, v_taken, g_taken, t1_taken, t2_taken, t3_taken, er, e2, e4, e7]
        rw [if_neg h2]; simp
    | away =>
      by_cases h2 : 2 * r = l
      · have e7 : (2 * r == l) = true := by simpa using h2
        simp?! [Hw.s, v_taken, g_taken, t1_taken, t2_taken, er, e3, e5, e7, beq_self_eq_true]
        rw [if_pos h2]; simp
      · have e7 : (2 * r == l) = false := by simpa using h2
        simp?! [Hw.s, v_taken, g_taken, t1_taken, t2_taken, t3_taken, er, e3, e5, e7]
        rw [if_neg h2]; simp
/-- the loop of fitted -/
theorem x_fitloop : ∀ (n : Nat) (a b : Int), a ≠ 0 → a.natAbs < 10 ^ n → ∀ m x y z, n < m →
    whileD c1_fitted b2_fitted m [.z (.int a), .z (.int b), x, y, z] = .nx [.z (.int (strip n a b).1), .z (.int (strip n a b).2), x, y, z]
  | 0, a, b, h, h2, m, x, y, z, hm => by
    have : (10 : Nat) ^ 0 = 1 := rfl
    omega
  | n + 1, a, b, h, h2, m, x, y, z, hm => by
    obtain ⟨m, rfl⟩ : ∃ k, m = k + 1 := ⟨m - 1, by omega⟩
    unfold strip
    by_cases h0 : a % 10 = 0
    · have ih := x_fitloop n (a / 10) (b + 1) (by omega) (by
        have : (10 : Nat) ^ (n + 1) = 10 ^ n * 10 := by rw [Nat.pow_succ]
        omega) m x y z (by omega)
      have hc : c1_fitted [.z (.int a), .z (.int b), x, y, z] = .ok true := by simp?! [c1_fitted, h0, beq_self_eq_true]
      have hb : b2_fitted [.z (.int a), .z (.int b), x, y, z] = .nx [.z (.int (a / 10)), .z (.int (b + 1)), x, y, z] := by simp?! [b2_fitted]
      rw [while_t hc hb, ih, if_pos h0]
    · have e : (a % 10 == 0) = false := by simpa using h0
      have hc : c1_fitted [.z (.int a), .z (.int b), x, y, z] = .ok false := by simp?! [c1_fitted, e]
      rw [while_f hc, if_neg h0]
def optR : Option (Int × Int) → Res D
  | none => .ex "TooGreat"
  | some (a, b) => .ok (.tup [.int a, .int b])
theorem sg_eq (b : Bool) : (1 : Int) - 2 * (if b = true then 1 else 0) = sgZ b := rfl
theorem x_fitted (h : Hw) {w p : Int} {b : Bool} (h0 : 0 < w) (h1 : w.natAbs < 10 ^ 450) : d_fitted [.int w, .int p, .bl b, .str h.s] = optR (fitZ h w p b) := by
  have hl := x_fitloop 5000 w p (by omega) (Nat.lt_of_lt_of_le h1 (pow10_le (by decide))) 100000 (.z (.bl b)) (.z (.str h.s)) .u (by decide)
  obtain ⟨s1, s2, _, _⟩ := strip_pos 5000 w p h0
  have e0 : (w == 0) = false := by simpa using (show w ≠ 0 by omega)
  have hb : (strip 5000 w p).1.natAbs < 10 ^ 500 := Nat.lt_of_le_of_lt (by omega) (Nat.lt_of_lt_of_le h1 (pow10_le (by decide)))
  have hh := x_height (a := (strip 5000 w p).1) (b := (strip 5000 w p).2) hb
  have eh : (strip 5000 w p).2 + (figs (strip 5000 w p).1.natAbs : Int) - 1 = hgZ (strip 5000 w p) := rfl
  rw [eh] at hh
  unfold fitZ
  by_cases c1 : 40 < hgZ (strip 5000 w p)
  · rw [if_pos c1]
    simp?! [v_fitted, g_fitted, t1_fitted, t2_fitted, t3_fitted, e0, hl, hh, c1, sg_eq]
    rfl
  · rw [if_neg c1]
    have d1 : decide (40 < hgZ (strip 5000 w p)) = false := decide_eq_false c1
    by_cases c2 : hgZ (strip 5000 w p) < -40
    · rw [if_pos c2]
      have ek : (h.s == Str.ofString "more") = decide (h = .more) := by cases h <;> decide +kernel
      by_cases hm : h = .more
      · rw [decide_eq_true hm] at ek
        rw [if_pos hm]
        simp?! [v_fitted, g_fitted, t1_fitted, t2_fitted, t3_fitted, t4_fitted, e0, hl, hh, d1, c2, sg_eq, ek, optR]
      · rw [decide_eq_false hm] at ek
        rw [if_neg hm]
        simp?! [v_fitted, g_fitted, t1_fitted, t2_fitted, t3_fitted, t4_fitted, e0, hl, hh, d1, c2, sg_eq, ek, optR]
    · rw [if_neg c2]
      have d2 : decide (hgZ (strip 5000 w p) < -40) = false := decide_eq_false c2
      have m1 : mulD (.int (sgZ b)) (.int (strip 5000 w p).1) = some (.int (sgZ b * (strip 5000 w p).1)) := mul_l (by unfold sgZ; cases b <;> decide)
      simp?! [v_fitted, g_fitted, t1_fitted, t2_fitted, t3_fitted, t4_fitted, t5_fitted, e0, hl, hh, d1, d2, sg_eq, m1, optR]
theorem cast10 (a : Nat) : ((10 ^ a : Nat) : Int) = 10 ^ a := by
  rw [Int.natCast_pow]
  rfl
theorem c1_pf {U L : Nat} {p : Int} (bU : U < 10 ^ 200) (bL : L < 10 ^ 200) (h1 : -450 ≤ p) (h2 : p ≤ 450) :
    c1_power_for [.z (.int (U : Int)), .z (.int (L : Int)), .z (.int p)] = .ok (decide (L * 10 ^ p.toNat * 10 ^ 8 ≤ U * 10 ^ (-p).toNat)) := by
  have m1 := mul_t (u := (U : Int)) (n := (-p).toNat) (Nat.lt_of_lt_of_le bU (pow10_le (by decide))) (by omega)
  have m2 := mul_t (u := (L : Int)) (n := p.toNat) (Nat.lt_of_lt_of_le bL (pow10_le (by decide))) (by omega)
  have m3 := mul_t (u := (L : Int) * 10 ^ p.toNat) (n := 8) (Nat.lt_of_lt_of_le (natAbs_mul_pow (k := 200) bL) (pow10_le (by omega))) (by omega)
  have e : ((L : Int) * 10 ^ p.toNat * 10 ^ 8 ≤ (U : Int) * 10 ^ (-p).toNat) ↔ (L * 10 ^ p.toNat * 10 ^ 8 ≤ U * 10 ^ (-p).toNat) := by
    rw [← Int.ofNat_le, Int.natCast_mul, Int.natCast_mul, Int.natCast_mul, cast10, cast10, cast10]
  simp?! [c1_power_for, maxz, x_tenN, x_ten8, m1, m2, m3]
  rw [decide_eq_decide.mpr e]
theorem x_power {U L : Nat} (hU : 0 < U) (hL : 0 < L) (bU : U < 10 ^ 200) (bL : L < 10 ^ 200) : d_power_for [.int (U : Int), .int (L : Int)] = .ok (.int (pwN U L)) := by
  have f1 := figs_pos U
  have f2 := figs_le (by decide) bU
  have f3 := figs_pos L
  have f4 := figs_le (by decide) bL
  have e1 := x_figures (a := (U : Int)) (Nat.lt_of_lt_of_le bU (pow10_le (by decide)))
  have e2 := x_figures (a := (L : Int)) (Nat.lt_of_lt_of_le bL (pow10_le (by decide)))
  rw [Int.natAbs_natCast] at e1 e2
  have key : d_power_for [.int (U : Int), .int (L : Int)] = finR (t1_power_for [.z (.int (U : Int)), .z (.int (L : Int)), .z (.int (pw0 U L))]) := by
    simp?! [v_power_for, g_power_for, e1, e2]
    rfl
  rw [key]
  have b0 : -450 ≤ pw0 U L ∧ pw0 U L ≤ 440 := by unfold pw0; omega
  have c0 := c1_pf (p := pw0 U L) bU bL (by omega) (by omega)
  unfold pwN
  by_cases h : L * 10 ^ (pw0 U L).toNat * 10 ^ 8 ≤ U * 10 ^ (-(pw0 U L)).toNat
  · rw [decide_eq_true h] at c0
    have c1 := c1_pf (p := pw0 U L + 1) bU bL (by omega) (by omega)
    rw [decide_eq_false (Nat.not_le.mpr (pw_hi hL rfl))] at c1
    have hb : b2_power_for [.z (.int (U : Int)), .z (.int (L : Int)), .z (.int (pw0 U L))] = .nx [.z (.int (U : Int)), .z (.int (L : Int)), .z (.int (pw0 U L + 1))] := by simp?! [b2_power_for]
    have hw : whileD c1_power_for b2_power_for 100000 [.z (.int (U : Int)), .z (.int (L : Int)), .z (.int (pw0 U L))] = .nx [.z (.int (U : Int)), .z (.int (L : Int)), .z (.int (pw0 U L + 1))] := by
      rw [while_t (n := 99999) c0 hb, while_f (n := 99998) c1]
    rw [if_pos h]
    simp?! [t1_power_for, t2_power_for, hw]
  · rw [decide_eq_false h] at c0
    have hw : whileD c1_power_for b2_power_for 100000 [.z (.int (U : Int)), .z (.int (L : Int)), .z (.int (pw0 U L))] = .nx [.z (.int (U : Int)), .z (.int (L : Int)), .z (.int (pw0 U L))] := while_f (n := 99999) c0
    rw [if_neg h]
    simp?! [t1_power_for, t2_power_for, hw]
theorem finR_ret {r : Res D} {ρ : Rho} : finR (retR r ρ) = r := by cases r <;> rfl
theorem pw_bound {U L : Nat} (bU : U < 10 ^ 200) (bL : L < 10 ^ 200) : -250 ≤ pwN U L ∧ pwN U L ≤ 250 := by
  have f1 := figs_pos U
  have f2 := figs_le (by decide) bU
  have f3 := figs_pos L
  have f4 := figs_le (by decide) bL
  unfold pwN pw0
  split <;> omega
/-- the quotient and the rest that are rounded -/
theorem q_facts {U L : Nat} (hU : 0 < U) (hL : 0 < L) (bU : U < 10 ^ 200) : 0 < (U : Int) * 10 ^ (-(pwN U L)).toNat / ((L : Int) * 10 ^ (pwN U L).toNat) ∧ (U : Int) * 10 ^ (-(pwN U L)).toNat / ((L : Int) * 10 ^ (pwN U L).toNat) < 10 ^ 8 ∧ 0 < (L : Int) * 10 ^ (pwN U L).toNat ∧ 0 < (U : Int) * 10 ^ (-(pwN U L)).toNat := by
  obtain ⟨h1, h2⟩ := pw_low hU hL
  have l0 : 0 < L * 10 ^ (pwN U L).toNat := Nat.mul_pos hL (pow10_pos _)
  have u0 : 0 < U * 10 ^ (-(pwN U L)).toNat := Nat.mul_pos hU (pow10_pos _)
  have e1 : (U : Int) * 10 ^ (-(pwN U L)).toNat = ((U * 10 ^ (-(pwN U L)).toNat : Nat) : Int) := by rw [Int.natCast_mul, cast10]
  have e2 : (L : Int) * 10 ^ (pwN U L).toNat = ((L * 10 ^ (pwN U L).toNat : Nat) : Int) := by rw [Int.natCast_mul, cast10]
  rw [e1, e2]
  generalize U * 10 ^ (-(pwN U L)).toNat = x at *
  generalize L * 10 ^ (pwN U L).toNat = y at *
  have a1 : 0 < x / y := Nat.div_pos (by omega) l0
  have a2 : x / y < 10 ^ 8 := Nat.div_lt_of_lt_mul (by omega)
  rw [← Int.natCast_ediv]
  exact ⟨by omega, by omega, by omega, by omega⟩
theorem taken_bound (h : Hw) {q r l : Int} : q ≤ takenZ h q r l ∧ takenZ h q r l ≤ q + 1 := by
  unfold takenZ
  split
  · omega
  · cases h <;> (repeat' split) <;> omega
theorem x_exact (m : Mn) {u l : Int} (hl : l ≠ 0) (bu : u.natAbs < 10 ^ 200) (bl : l.natAbs < 10 ^ 200) : d_exact [.int u, .int l, .str m.s] = optR (exZ m u l) := by
  unfold exZ
  by_cases h0 : u = 0
  · subst h0
    rw [if_pos rfl]
    simp?! [v_exact, g_exact, beq_self_eq_true, optR]
  · rw [if_neg h0]
    have e0 : (u == 0) = false := by simpa using h0
    obtain ⟨p1, p2⟩ := pw_bound bu bl
    have hU : 0 < u.natAbs := by omega
    have hL : 0 < l.natAbs := by omega
    obtain ⟨f1, f2, f3, f4⟩ := q_facts hU hL bu
    have ep := x_power hU hL bu bl
    generalize hp : pwN u.natAbs l.natAbs = p at *
    have t1 := x_tenN (n := (-p).toNat) (by omega)
    have t2 := x_tenN (n := p.toNat) (by omega)
    have m1 := mul_t (u := (u.natAbs : Int)) (n := (-p).toNat) (Nat.lt_of_lt_of_le bu (pow10_le (by decide))) (by omega)
    have m2 := mul_t (u := (l.natAbs : Int)) (n := p.toNat) (Nat.lt_of_lt_of_le bl (pow10_le (by decide))) (by omega)
    have dv := div_z (i := (u.natAbs : Int) * 10 ^ (-p).toNat) f3 (Nat.lt_of_lt_of_le (natAbs_mul_pow (u := (l.natAbs : Int)) (k := 200) bl) (pow10_le (by omega)))
    have md := mod_p (i := (u.natAbs : Int) * 10 ^ (-p).toNat) f3
    have bs := x_bysize m (decide (u < 0) != decide (l < 0))
    have tb := taken_bound (m.by (decide (u < 0) != decide (l < 0))) (q := (u.natAbs : Int) * 10 ^ (-p).toNat / ((l.natAbs : Int) * 10 ^ p.toNat)) (r := (u.natAbs : Int) * 10 ^ (-p).toNat % ((l.natAbs : Int) * 10 ^ p.toNat)) (l := (l.natAbs : Int) * 10 ^ p.toNat)
    have p9 : (10 : Nat) ^ 9 ≤ 10 ^ 450 := pow10_le (by decide)
    have ft := x_fitted (m.by (decide (u < 0) != decide (l < 0))) (p := p) (b := decide (u < 0) != decide (l < 0)) (w := takenZ (m.by (decide (u < 0) != decide (l < 0))) ((u.natAbs : Int) * 10 ^ (-p).toNat / ((l.natAbs : Int) * 10 ^ p.toNat)) ((u.natAbs : Int) * 10 ^ (-p).toNat % ((l.natAbs : Int) * 10 ^ p.toNat)) ((l.natAbs : Int) * 10 ^ p.toNat)) (by omega) (by omega)
    have nb : ∀ a b : Bool, (!(a == b)) = (a != b) := fun a b => rfl
    have key : d_exact [.int u, .int l, .str m.s] = finR (t5_exact [.z (.int (u.natAbs : Int)), .z (.int (l.natAbs : Int)), .z (.str m.s), .z (.bl (decide (u < 0) != decide (l < 0))), .z (.int p), .u]) := by
      simp?! [v_exact, g_exact, t1_exact, t2_exact, t3_exact, t4_exact, e0, abs_if, ep, nb]
    rw [key]
    simp only
    generalize (decide (u < 0) != decide (l < 0)) = bb at *
    generalize m.by bb = hw at *
    generalize (u.natAbs : Int) * 10 ^ (-p).toNat = UU at *
    generalize (l.natAbs : Int) * 10 ^ p.toNat = LL at *
    simp?! [t5_exact, t6_exact, t7_exact, t8_exact, maxz, t1, t2, m1, m2, dv, md, bs, x_taken]
    rw [finR_ret]
    exact ft
/-! the law's exact -/
theorem x_tidyZ : ∀ (n : Nat) (a b : Int), a ≠ 0 → a.natAbs < 10 ^ n → ∀ m, n < m →
    whileD c1__law_tidy b2__law_tidy m [.z (.int a), .z (.int b)] = .nx [.z (.int (strip n a b).1), .z (.int (strip n a b).2)]
  | 0, a, b, h, h2, m, hm => by
    have : (10 : Nat) ^ 0 = 1 := rfl
    omega
  | n + 1, a, b, h, h2, m, hm => by
    obtain ⟨m, rfl⟩ : ∃ k, m = k + 1 := ⟨m - 1, by omega⟩
    unfold strip
    by_cases h0 : a % 10 = 0
    · have ih := x_tidyZ n (a / 10) (b + 1) (by omega) (by
        have : (10 : Nat) ^ (n + 1) = 10 ^ n * 10 := by rw [Nat.pow_succ]
        omega) m (by omega)
      have hc : c1__law_tidy [.z (.int a), .z (.int b)] = .ok true := by simp?! [c1__law_tidy, h0, beq_self_eq_true]
      have hb : b2__law_tidy [.z (.int a), .z (.int b)] = .nx [.z (.int (a / 10)), .z (.int (b + 1))] := by simp?! [b2__law_tidy]
      rw [while_t hc hb, ih, if_pos h0]
    · have e : (a % 10 == 0) = false := by simpa using h0
      have hc : c1__law_tidy [.z (.int a), .z (.int b)] = .ok false := by simp?! [c1__law_tidy, e]
      rw [while_f hc, if_neg h0]
theorem x_tidyS {a b : Int} (h0 : a ≠ 0) (h2 : a.natAbs < 10 ^ 450) : d__law_tidy [.int a, .int b] = .ok (.tup [.int (strip 5000 a b).1, .int (strip 5000 a b).2]) := by
  have e := x_tidyZ 5000 a b h0 (Nat.lt_of_lt_of_le h2 (pow10_le (by decide))) 100000 (by decide)
  have : (a == 0) = false := by simpa using h0
  simp?! [v__law_tidy, g__law_tidy, t1__law_tidy, t2__law_tidy, this, e]
theorem strip_1 {b : Int} : strip 5000 1 b = (1, b) := rfl
theorem strip_m1 {b : Int} : strip 5000 (-1) b = (-1, b) := rfl
def optL : Option (Int × Int) → D
  | none => .non
  | some (a, b) => .tup [.int a, .int b]
theorem c1_le {u : Int} {L : Nat} {p : Int} (bU : u.natAbs < 10 ^ 200) (bL : L < 10 ^ 200) (h1 : -450 ≤ p) (h2 : p ≤ 450) {m q r s : En} :
    c1__law_exact [.z (.int u), .z (.int (L : Int)), m, .z (.int p), q, r, s] = .ok (decide (u.natAbs * 10 ^ (-p).toNat < L * 10 ^ (p.toNat + 7))) := by
  have m1 := mul_t (u := (u.natAbs : Int)) (n := (-p).toNat) (Nat.lt_of_lt_of_le bU (pow10_le (by decide))) (by omega)
  have m2 := mul_t (u := (L : Int)) (n := p.toNat + 7) (Nat.lt_of_lt_of_le bL (pow10_le (by decide))) (by omega)
  have t1 := x_lten (n := (-p).toNat) (by omega)
  have t2 := x_lten (n := p.toNat + 7) (by omega)
  have c : (p.toNat : Int) + 7 = ((p.toNat + 7 : Nat) : Int) := by omega
  have e : ((u.natAbs : Int) * 10 ^ (-p).toNat < (L : Int) * 10 ^ (p.toNat + 7)) ↔ (u.natAbs * 10 ^ (-p).toNat < L * 10 ^ (p.toNat + 7)) := by
    rw [← Int.ofNat_lt, Int.natCast_mul, Int.natCast_mul, cast10, cast10]
  simp?! [c1__law_exact, maxz, abs_if, c, t1, t2, m1, m2]
  rw [decide_eq_decide.mpr e]
/-- the power that the law finds -/
theorem x_lpow {u : Int} {L : Nat} {m : En} (hU : 0 < u.natAbs) (hL : 0 < L) (bU : u.natAbs < 10 ^ 200) (bL : L < 10 ^ 200) :
    whileD c1__law_exact b2__law_exact 100000 [.z (.int u), .z (.int (L : Int)), m, .z (.int (pw0 u.natAbs L + 1)), .u, .u, .u] = .nx [.z (.int u), .z (.int (L : Int)), m, .z (.int (pwN u.natAbs L)), .u, .u, .u] := by
  have f1 := figs_pos u.natAbs
  have f2 := figs_le (by decide) bU
  have f3 := figs_pos L
  have f4 := figs_le (by decide) bL
  have b0 : -450 ≤ pw0 u.natAbs L ∧ pw0 u.natAbs L ≤ 440 := by unfold pw0; omega
  have c0 := c1_le (p := pw0 u.natAbs L + 1) bU bL (by omega) (by omega) (m := m) (q := .u) (r := .u) (s := .u)
  unfold pwN
  by_cases h : L * 10 ^ (pw0 u.natAbs L).toNat * 10 ^ 8 ≤ u.natAbs * 10 ^ (-(pw0 u.natAbs L)).toNat
  · rw [decide_eq_false (fun z => pw_same.mp z h)] at c0
    rw [while_f (n := 99999) c0, if_pos h]
  · rw [decide_eq_true (pw_same.mpr h)] at c0
    have c1 := c1_le (p := pw0 u.natAbs L) bU bL (by omega) (by omega) (m := m) (q := .u) (r := .u) (s := .u)
    rw [decide_eq_false (Nat.not_lt.mpr (pw_lo hU rfl))] at c1
    have es : pw0 u.natAbs L + 1 - 1 = pw0 u.natAbs L := by omega
    have hb : b2__law_exact [.z (.int u), .z (.int (L : Int)), m, .z (.int (pw0 u.natAbs L + 1)), .u, .u, .u] = .nx [.z (.int u), .z (.int (L : Int)), m, .z (.int (pw0 u.natAbs L)), .u, .u, .u] := by
      simp?! [b2__law_exact, es]
    rw [while_t (n := 99999) c0 hb, while_f (n := 99998) c1, if_neg h]
/-- the law's rounding: of entire and twice -/
def roundE (m : Mn) (v l e t : Int) : Int := if 0 < v % l then (match m with
  | .even => if t = 0 then e + e % 2 else e + (if 0 < t then 1 else 0)
  | .away => if t = 0 then e + (if 0 < v then 1 else 0) else e + (if 0 < t then 1 else 0)
  | .up => e + 1
  | .down => e
  | .nought => e + (if v < 0 then 1 else 0)) else e
theorem in_m (m : Mn) : inD (.str m.s) (.tup [.str "even", .str "away"]) = some (.bl (decide (m = .even) || decide (m = .away))) := by cases m <;> rfl
theorem dec_if (c : Prop) [Decidable c] : (if decide c = true then (1 : Int) else 0) = if c then 1 else 0 := by
  by_cases h : c <;> simp [h]
theorem t8_ev (m : Mn) {v l p e t : Int} (hl : 0 < l) : t8__law_exact [.z (.int v), .z (.int l), .z (.str m.s), .z (.int p), .z (.int e), .z (.int t), .u] = t9__law_exact [.z (.int v), .z (.int l), .z (.str m.s), .z (.int p), .z (.int (roundE m v l e t)), .z (.int t), .u] := by
  have md := mod_p (i := v) hl
  have i1 := in_m m
  have e1 : (m.s == Str.ofString "away") = decide (m = .away) := by cases m <;> decide +kernel
  have e2 : (m.s == Str.ofString "up") = decide (m = .up) := by cases m <;> decide +kernel
  have e3 : (m.s == Str.ofString "nought") = decide (m = .nought) := by cases m <;> decide +kernel
  unfold roundE
  by_cases h : 0 < v % l
  · rw [if_pos h]
    cases m with
    | even =>
      simp only [decide_eq_true, reduceCtorEq, decide_false, Bool.or_false, decide_true] at i1 e1 e2 e3
      by_cases h0 : t = 0
      · have et : (t == 0) = true := by simpa using h0
        simp?! [t8__law_exact, md, h, i1, e1, et, if_true, if_false, Bool.false_eq_true]
        simp only [if_pos h0]
      · have et : (t == 0) = false := by simpa using h0
        simp?! [t8__law_exact, md, h, i1, e1, et, dec_if]
        simp only [if_neg h0]
    | away =>
      simp only [decide_eq_true, reduceCtorEq, decide_false, Bool.false_or, decide_true] at i1 e1 e2 e3
      by_cases h0 : t = 0
      · have et : (t == 0) = true := by simpa using h0
        simp?! [t8__law_exact, md, h, i1, e1, et, dec_if, if_true, if_false, Bool.false_eq_true]
        simp only [if_pos h0]
      · have et : (t == 0) = false := by simpa using h0
        simp?! [t8__law_exact, md, h, i1, e1, et, dec_if]
        simp only [if_neg h0]
    | up =>
      simp only [decide_eq_true, reduceCtorEq, decide_false, Bool.false_or, decide_true] at i1 e1 e2 e3
      simp?! [t8__law_exact, md, h, i1, e2, if_true]
    | down =>
      simp only [decide_eq_true, reduceCtorEq, decide_false, Bool.false_or, decide_true] at i1 e1 e2 e3
      simp?! [t8__law_exact, md, h, i1, e2, e3]
      simp
    | nought =>
      simp only [decide_eq_true, reduceCtorEq, decide_false, Bool.false_or, decide_true] at i1 e1 e2 e3
      simp?! [t8__law_exact, md, h, i1, e2, e3, dec_if]
  · rw [if_neg h]
    have hd : decide (0 < v % l) = false := decide_eq_false h
    simp?! [t8__law_exact, md, hd]
/-- both roundings are one -/
theorem round_same (m : Mn) {V L : Int} (hL : 0 < L) (hV : 0 < V) (b : Bool) : roundE m (sgZ b * V) L (sgZ b * V / L) (2 * (sgZ b * V) - (2 * (sgZ b * V / L) + 1) * L) = sgZ b * takenZ (m.by b) (V / L) (V % L) L := by
  have r0 := Int.emod_nonneg V (show L ≠ 0 by omega)
  have r1 := Int.emod_lt_of_pos V hL
  have dm := Int.mul_ediv_add_emod V L
  cases b with
  | false =>
    have s1 : sgZ false = 1 := rfl
    rw [s1, Int.one_mul, Int.one_mul]
    have tw : 2 * V - (2 * (V / L) + 1) * L = 2 * (V % L) - L := by
      rw [Int.add_mul, Int.mul_assoc, Int.mul_comm (V / L) L]
      omega
    rw [tw]
    unfold roundE takenZ
    generalize V % L = r at *
    generalize V / L = q at *
    by_cases h : 0 < r
    · rw [if_pos h, if_neg (show ¬ r = 0 by omega)]
      cases m <;> simp only [Mn.by] <;> (repeat' split) <;> omega
    · rw [if_neg h, if_pos (show r = 0 by omega)]
  | true =>
    have s1 : sgZ true = -1 := rfl
    rw [s1]
    by_cases h : V % L = 0
    · have hz : -1 * V % L = 0 := Int.emod_eq_zero_of_dvd (by rw [Int.neg_one_mul]; exact Int.dvd_neg.mpr (Int.dvd_of_emod_eq_zero h))
      have hq : -1 * V / L = -1 * (V / L) := by
        rw [Int.neg_one_mul, Int.neg_ediv_of_dvd (Int.dvd_of_emod_eq_zero h), Int.neg_one_mul]
      unfold roundE takenZ
      rw [hz, if_neg (show ¬ (0 : Int) < 0 by omega), if_pos h, hq]
    · have hq : -1 * V / L = -(V / L) - 1 := by
        refine (Int.ediv_emod_unique hL (r := L - V % L) (q := -(V / L) - 1)).mpr ⟨?_, by omega, by omega⟩ |>.1
        rw [Int.mul_sub, Int.mul_neg, Int.mul_one]
        omega
      have hm : -1 * V % L = L - V % L := by
        refine (Int.ediv_emod_unique hL (r := L - V % L) (q := -(V / L) - 1)).mpr ⟨?_, by omega, by omega⟩ |>.2
        rw [Int.mul_sub, Int.mul_neg, Int.mul_one]
        omega
      have tw : 2 * (-1 * V) - (2 * (-(V / L) - 1) + 1) * L = L - 2 * (V % L) := by
        have e : (2 * (-(V / L) - 1) + 1) * L = -(2 * (L * (V / L))) - L := by
          rw [Int.add_mul, Int.mul_assoc, Int.sub_mul, Int.neg_mul, Int.mul_comm (V / L) L]
          omega
        rw [e]
        omega
      unfold roundE takenZ
      rw [hm, hq, tw, if_pos (show 0 < L - V % L by omega), if_neg h]
      have vneg : ¬ (0 < -1 * V) := by omega
      have vneg2 : -1 * V < 0 := by omega
      generalize -1 * V = v at *
      generalize V % L = r at *
      generalize V / L = q at *
      cases m <;> simp only [Mn.by] <;> (repeat' split) <;> omega
theorem sg_abs (b : Bool) (x : Int) : (sgZ b * x).natAbs = x.natAbs := by cases b <;> simp [sgZ]
theorem strip_sg (b : Bool) (n : Nat) (a p : Int) : strip n (sgZ b * a) p = (sgZ b * (strip n a p).1, (strip n a p).2) := by
  cases b with
  | false => have s1 : sgZ false = 1 := rfl; rw [s1, Int.one_mul, Int.one_mul]
  | true => have s1 : sgZ true = -1 := rfl; rw [s1, Int.neg_one_mul, strip_neg, Int.neg_one_mul]
theorem hg_sg (b : Bool) (s : Int × Int) : hgZ (sgZ b * s.1, s.2) = hgZ s := by unfold hgZ; rw [sg_abs]
/-- behind the rounding -/
theorem t9_ev (m : Mn) {V L p t w : Int} {b : Bool} (hV : 0 < V) (hw : 0 < w) (bw : w.natAbs < 10 ^ 450) : finR (t9__law_exact [.z (.int (sgZ b * V)), .z (.int L), .z (.str m.s), .z (.int p), .z (.int (sgZ b * w)), .z (.int t), .u]) = .ok (optL (fitZ (m.by b) w p b)) := by
  obtain ⟨s1, s2, _, _⟩ := strip_pos 5000 w p hw
  have td := x_tidyS (a := sgZ b * w) (b := p) (by cases b <;> simp [sgZ] <;> omega) (by rw [sg_abs]; exact bw)
  rw [strip_sg] at td
  have hb : (sgZ b * (strip 5000 w p).1).natAbs < 10 ^ 500 := by
    rw [sg_abs]
    exact Nat.lt_of_le_of_lt (by omega) (Nat.lt_of_lt_of_le bw (pow10_le (by decide)))
  have hh := x_lheight (a := sgZ b * (strip 5000 w p).1) (b := (strip 5000 w p).2) hb
  have eh : (strip 5000 w p).2 + (figs (sgZ b * (strip 5000 w p).1).natAbs : Int) - 1 = hgZ (strip 5000 w p) := hg_sg b (strip 5000 w p)
  rw [eh] at hh
  unfold fitZ
  by_cases c1 : 40 < hgZ (strip 5000 w p)
  · rw [if_pos c1]
    simp?! [t9__law_exact, t10__law_exact, td, hh, c1, optL]
  · rw [if_neg c1]
    have d1 : decide (40 < hgZ (strip 5000 w p)) = false := decide_eq_false c1
    by_cases c2 : hgZ (strip 5000 w p) < -40
    · rw [if_pos c2]
      have e2 : (m.s == Str.ofString "up") = decide (m = .up) := by cases m <;> decide +kernel
      have e3 : (m.s == Str.ofString "down") = decide (m = .down) := by cases m <;> decide +kernel
      have td1 := x_tidyS (a := 1) (b := -40) (by decide) (by decide +kernel)
      have td2 := x_tidyS (a := -1) (b := -40) (by decide) (by decide +kernel)
      rw [strip_1] at td1
      rw [strip_m1] at td2
      simp only at td1 td2
      have td0 := x_tidy0 (b := -40)
      have g1 : decide (0 < sgZ b * V) = !b := by cases b <;> simp [sgZ] <;> omega
      have g2 : decide (sgZ b * V < 0) = b := by cases b <;> simp [sgZ] <;> omega
      have z1 : (1 : Int) - 0 = 1 := rfl
      have z2 : (0 : Int) - 1 = -1 := rfl
      have z3 : (0 : Int) - 0 = 0 := rfl
      cases b <;> cases m <;> simp only [decide_true, reduceCtorEq, decide_false, Bool.not_true, Bool.not_false] at e2 e3 g1 g2 <;> (simp?! [t9__law_exact, t10__law_exact, t11__law_exact, td, hh, d1, c2, e2, e3, g1, g2, td0, td1, td2, z1, z2, z3, if_true, if_false, Bool.false_eq_true, finR_ret, Mn.by, reduceCtorEq, optL]; try rfl)
    · rw [if_neg c2]
      have d2 : decide (hgZ (strip 5000 w p) < -40) = false := decide_eq_false c2
      simp?! [t9__law_exact, t10__law_exact, t11__law_exact, t12__law_exact, td, hh, d1, d2, optL]
/-- from the power on: the numerator's sign is b's -/
theorem lx_core (m : Mn) {U L : Nat} {b : Bool} (hU : 0 < U) (hL : 0 < L) (bU : U < 10 ^ 200) (bL : L < 10 ^ 200) : finR (t2__law_exact [.z (.int (sgZ b * U)), .z (.int (L : Int)), .z (.str m.s), .u, .u, .u, .u]) =
    .ok (optL (fitZ (m.by b) (takenZ (m.by b) ((U : Int) * 10 ^ (-(pwN U L)).toNat / ((L : Int) * 10 ^ (pwN U L).toNat)) ((U : Int) * 10 ^ (-(pwN U L)).toNat % ((L : Int) * 10 ^ (pwN U L).toNat)) ((L : Int) * 10 ^ (pwN U L).toNat)) (pwN U L) b)) := by
  have na : (sgZ b * (U : Int)).natAbs = U := by rw [sg_abs]; rfl
  obtain ⟨p1, p2⟩ := pw_bound bU bL
  obtain ⟨f1, f2, f3, f4⟩ := q_facts hU hL bU
  have lp := x_lpow (u := sgZ b * (U : Int)) (m := .z (.str m.s)) (by rw [na]; exact hU) hL (by rw [na]; exact bU) bL
  rw [na] at lp
  obtain ⟨q1, q2⟩ := lenstr (i := (U : Int)) (by omega) (Nat.lt_of_lt_of_le bU (pow10_le (by decide)))
  obtain ⟨q3, q4⟩ := lenstr (i := (L : Int)) (by omega) (Nat.lt_of_lt_of_le bL (pow10_le (by decide)))
  rw [Int.natAbs_natCast] at q2 q4
  have e0 : (figs U : Int) - (figs L : Int) - 7 = pw0 U L + 1 := by unfold pw0; omega
  generalize hp : pwN U L = p at *
  have t1 := x_lten (n := (-p).toNat) (by omega)
  have t2 := x_lten (n := p.toNat) (by omega)
  have m1 := mul_t (u := sgZ b * (U : Int)) (n := (-p).toNat) (by rw [na]; exact Nat.lt_of_lt_of_le bU (pow10_le (by decide))) (by omega)
  have m2 := mul_t (u := (L : Int)) (n := p.toNat) (Nat.lt_of_lt_of_le bL (pow10_le (by decide))) (by omega)
  rw [Int.mul_assoc] at m1
  have bLL := Nat.lt_of_lt_of_le (natAbs_mul_pow (u := (L : Int)) (k := 200) (n := p.toNat) bL) (pow10_le (show 200 + p.toNat ≤ 500 by omega))
  have bUU := Nat.lt_of_lt_of_le (natAbs_mul_pow (u := (U : Int)) (k := 200) (n := (-p).toNat) bU) (pow10_le (show 200 + (-p).toNat ≤ 500 by omega))
  generalize hUU : (U : Int) * 10 ^ (-p).toNat = UU at *
  generalize hLL : (L : Int) * 10 ^ p.toNat = LL at *
  have key : finR (t2__law_exact [.z (.int (sgZ b * U)), .z (.int (L : Int)), .z (.str m.s), .u, .u, .u, .u]) = finR (t6__law_exact [.z (.int (sgZ b * UU)), .z (.int LL), .z (.str m.s), .z (.int p), .u, .u, .u]) := by
    simp?! [t2__law_exact, t3__law_exact, t4__law_exact, t5__law_exact, abs_if, na, q1, q2, q3, q4, e0, lp, maxz, t1, t2, m1, m2]
  rw [key]
  have dv := div_z (i := sgZ b * UU) f3 (Nat.lt_of_lt_of_le bLL (pow10_le (by decide)))
  have p8 : (10 : Nat) ^ 9 ≤ 10 ^ 450 := pow10_le (by decide)
  have bE : (2 * (sgZ b * UU / LL) + 1).natAbs < 10 ^ 2000 := by
    have p9 : (10 : Nat) ^ 12 ≤ 10 ^ 2000 := pow10_le (by decide)
    have a1 : sgZ b * UU / LL ≤ UU / LL := by
      refine Int.ediv_le_ediv f3 ?_
      cases b <;> simp [sgZ] <;> omega
    have a2 : -(UU / LL) - 1 ≤ sgZ b * UU / LL := by
      refine Int.le_ediv_of_mul_le f3 ?_
      have dm := Int.mul_ediv_add_emod UU LL
      have r1 := Int.emod_lt_of_pos UU f3
      have e : (-(UU / LL) - 1) * LL = -(LL * (UU / LL)) - LL := by rw [Int.sub_mul, Int.neg_mul, Int.one_mul, Int.mul_comm]
      rw [e]
      cases b <;> simp [sgZ] <;> omega
    omega
  have mE := mul_z (i := 2 * (sgZ b * UU / LL) + 1) (j := LL) bE (Nat.lt_of_lt_of_le bLL (pow10_le (by decide)))
  have tb := taken_bound (m.by b) (q := UU / LL) (r := UU % LL) (l := LL)
  have key2 : finR (t6__law_exact [.z (.int (sgZ b * UU)), .z (.int LL), .z (.str m.s), .z (.int p), .u, .u, .u]) = finR (t8__law_exact [.z (.int (sgZ b * UU)), .z (.int LL), .z (.str m.s), .z (.int p), .z (.int (sgZ b * UU / LL)), .z (.int (2 * (sgZ b * UU) - (2 * (sgZ b * UU / LL) + 1) * LL)), .u]) := by
    simp?! [t6__law_exact, t7__law_exact, dv, mE]
  rw [key2, t8_ev m f3, round_same m f3 f4 b]
  exact t9_ev m f4 (by omega) (by omega)
theorem x_lexact (m : Mn) {u l : Int} (hl : l ≠ 0) (bu : u.natAbs < 10 ^ 200) (bl : l.natAbs < 10 ^ 200) : d__law_exact [.int u, .int l, .str m.s] = .ok (optL (exZ m u l)) := by
  unfold exZ
  have key : d__law_exact [.int u, .int l, .str m.s] = finR (t1__law_exact [.z (.int (if l < 0 then -u else u)), .z (.int (l.natAbs : Int)), .z (.str m.s), .u, .u, .u, .u]) := by
    by_cases h : l < 0
    · have e : -l = (l.natAbs : Int) := by omega
      rw [if_pos h]
      simp?! [v__law_exact, g__law_exact, h, e]
    · have e : l = (l.natAbs : Int) := by omega
      have hd : decide (l < 0) = false := decide_eq_false h
      rw [if_neg h]
      simp?! [v__law_exact, g__law_exact, hd]
      rw [← e]
  rw [key]
  by_cases h0 : u = 0
  · subst h0
    have z : (if l < 0 then -(0 : Int) else 0) = 0 := by split <;> rfl
    rw [if_pos rfl, z]
    simp?! [t1__law_exact, beq_self_eq_true, optL]
  · rw [if_neg h0]
    have e : (if l < 0 then -u else u) = sgZ (decide (u < 0) != decide (l < 0)) * (u.natAbs : Int) := by
      by_cases h1 : l < 0 <;> by_cases h2 : u < 0 <;> simp [h1, h2, sgZ] <;> omega
    have e0 : ((if l < 0 then -u else u) == 0) = false := by
      rw [beq_eq_false_iff_ne]
      split <;> omega
    have key2 : finR (t1__law_exact [.z (.int (if l < 0 then -u else u)), .z (.int (l.natAbs : Int)), .z (.str m.s), .u, .u, .u, .u]) = finR (t2__law_exact [.z (.int (if l < 0 then -u else u)), .z (.int (l.natAbs : Int)), .z (.str m.s), .u, .u, .u, .u]) := by
      simp?! [t1__law_exact, e0]
    rw [key2, e]
    exact lx_core m (by omega) (by omega) bu bl
/-! manners -/
def FracOk (u l : Int) : Prop := l ≠ 0 ∧ u.natAbs < 10 ^ 200 ∧ l.natAbs < 10 ^ 200
theorem x_manner {n : Int} : ∃ m : Mn, d__law_manner [.int n] = .ok (.str m.s) := by
  have key : d__law_manner [.int n] = .ok (([.str Mn.even.s, .str Mn.away.s, .str Mn.nought.s, .str Mn.up.s, .str Mn.down.s] : List D).getD (n % 5).toNat .non) := by
    simp?! [v__law_manner, g__law_manner]
    rfl
  have h : (n % 5).toNat < 5 := by omega
  rw [key]
  generalize (n % 5).toNat = k at h
  match k, h with
  | 0, _ => exact ⟨.even, rfl⟩
  | 1, _ => exact ⟨.away, rfl⟩
  | 2, _ => exact ⟨.nought, rfl⟩
  | 3, _ => exact ⟨.up, rfl⟩
  | 4, _ => exact ⟨.down, rfl⟩
/-! comparing, comprehensions -/
mutual
theorem eqd_refl : ∀ (n : Nat) (d : D), plain n d = true → eqd d d = true
  | _, .non, _ => rfl
  | _, .bl b, _ => by simp [eqd]
  | _, .int i, _ => by simp [eqd]
  | _, .str x, _ => by simp [eqd]
  | n, .lst xs, h => by
    cases n with
    | zero => cases h
    | succ n => exact eqds_refl n xs h
  | n, .tup xs, h => by
    cases n with
    | zero => cases h
    | succ n => exact eqds_refl n xs h
  | n, .fn _, h => by cases n <;> cases h
  | n, .ty _, h => by cases n <;> cases h
  | n, .dK _, h => by cases n <;> cases h
  | n, .dT _, h => by cases n <;> cases h
  | n, .arr _, h => by cases n <;> cases h
  | n, .pro _, h => by cases n <;> cases h
theorem eqds_refl : ∀ (n : Nat) (ds : List D), plains n ds = true → eqds ds ds = true
  | _, [], _ => rfl
  | n, d :: ds, h => by
    have h : (plain n d && plains n ds) = true := h
    rw [Bool.and_eq_true] at h
    show (eqd d d && eqds ds ds) = true
    rw [eqd_refl n d h.1, eqds_refl n ds h.2]
    rfl
end
theorem ne_same {d : D} (h : plain 64 d = true) : neD d d = some (.bl false) := by
  unfold neD eqOk
  rw [h, Bool.and_self, Bool.and_self, Bool.or_true, if_pos rfl, eqd_refl 64 d h]
  rfl
theorem eq_same {d : D} (h : plain 64 d = true) : eqD d d = some (.bl true) := by
  unfold eqD eqOk
  rw [h, Bool.and_self, Bool.and_self, Bool.or_true, if_pos rfl, eqd_refl 64 d h]
theorem so_told : PyData.strOk (Str.ofString "told") = true := by decide +kernel
theorem so_ref : PyData.strOk (Str.ofString "refused") = true := by decide +kernel
theorem pl_ref {k : Int} : DN.plain 64 (.tup [.str "refused", .int k]) = true := by
  show (PyData.strOk (Str.ofString "refused") && (true && true)) = true
  rw [so_ref]
  rfl
theorem pl_told {d : D} (h : DN.plain 63 d = true) : DN.plain 64 (.tup [.str "told", d]) = true := by
  show (PyData.strOk (Str.ofString "told") && (DN.plain 63 d && true)) = true
  rw [so_told, h]
  rfl
/-! plus, minus, times, over, less, and the law's deed -/
def NumB (a b : Int) : Prop := a.natAbs < 10 ^ 8 ∧ -48 ≤ b ∧ b ≤ 40
theorem num_b {a b : Int} (h : NumOk a b) : NumB a b := by
  rcases h with ⟨h1, h2⟩ | ⟨h0, _, h3, h4, h5⟩
  · subst h1; subst h2
    exact ⟨by decide, by decide, by decide⟩
  · have f1 := figs_pos a.natAbs
    have f2 := figs_le (by decide) h3
    exact ⟨h3, by omega, by omega⟩
/-- the lower power -/
def lowP (b1 b2 : Int) : Int := if b2 < b1 then b2 else b1
theorem low_f (b1 b2 : Int) : lowP b1 b2 ≤ b1 ∧ lowP b1 b2 ≤ b2 ∧ (lowP b1 b2 = b1 ∨ lowP b1 b2 = b2) := by unfold lowP; split <;> omega
theorem big_small {a : Int} {k : Nat} (h : a.natAbs < 10 ^ 8) (hk : k ≤ 92) : (a * 10 ^ k).natAbs < 10 ^ 100 := Nat.lt_of_lt_of_le (natAbs_mul_pow h) (pow10_le (by omega))
theorem mul_a {a : Int} {k : Nat} (h : a.natAbs < 10 ^ 8) (hk : k ≤ 92) : mulD (.int a) (.int (10 ^ k)) = some (.int (a * 10 ^ k)) := mul_t (Nat.lt_of_lt_of_le h (pow10_le (by decide))) (by omega)
theorem x_level {a1 b1 a2 b2 : Int} (n1 : NumB a1 b1) (n2 : NumB a2 b2) : d_level [.tup [.int a1, .int b1], .tup [.int a2, .int b2]] = .ok (.tup [.int (a1 * 10 ^ (b1 - lowP b1 b2).toNat), .int (a2 * 10 ^ (b2 - lowP b1 b2).toNat), .int (lowP b1 b2)]) := by
  obtain ⟨h1, h2, h3⟩ := n1
  obtain ⟨g1, g2, g3⟩ := n2
  obtain ⟨l1, l2, l3⟩ := low_f b1 b2
  have e : (if b2 < b1 then b2 else b1) = lowP b1 b2 := rfl
  have t1 := x_ten (k := b1 - lowP b1 b2) (by omega) (by omega)
  have t2 := x_ten (k := b2 - lowP b1 b2) (by omega) (by omega)
  have m1 := mul_a (k := (b1 - lowP b1 b2).toNat) h1 (by omega)
  have m2 := mul_a (k := (b2 - lowP b1 b2).toNat) g1 (by omega)
  simp?! [v_level, g_level, t1_level, e, t1, t2, m1, m2]
theorem x_ofpower (m : Mn) {w p : Int} (hw : w.natAbs < 10 ^ 101) (h1 : -98 ≤ p) (h2 : p ≤ 98) : d_of_power [.int w, .int p, .str m.s] = optR (exZ m (w * 10 ^ p.toNat) (10 ^ (-p).toNat)) := by
  have t1 := x_tenN (n := p.toNat) (by omega)
  have t2 := x_tenN (n := (-p).toNat) (by omega)
  have m1 := mul_t (u := w) (n := p.toNat) (Nat.lt_of_lt_of_le hw (pow10_le (by decide))) (by omega)
  have hp := pow_ge1 (-p).toNat
  have ex := x_exact m (u := w * 10 ^ p.toNat) (l := 10 ^ (-p).toNat) (by omega) (Nat.lt_of_lt_of_le (natAbs_mul_pow hw) (pow10_le (by omega))) (by rw [pow_z]; exact Nat.pow_lt_pow_right (by decide) (by omega))
  simp?! [v_of_power, g_of_power, maxz, t1, t2, m1, ex, finR_ret]
def plU (a1 b1 a2 b2 : Int) : Int := (a1 * 10 ^ (b1 - lowP b1 b2).toNat + a2 * 10 ^ (b2 - lowP b1 b2).toNat) * 10 ^ (lowP b1 b2).toNat
def plL (b1 b2 : Int) : Int := 10 ^ (-(lowP b1 b2)).toNat
theorem x_plus (m : Mn) {a1 b1 a2 b2 : Int} (n1 : NumB a1 b1) (n2 : NumB a2 b2) : d_plus [.tup [.int a1, .int b1], .tup [.int a2, .int b2], .str m.s] = optR (exZ m (plU a1 b1 a2 b2) (plL b1 b2)) := by
  have e := x_level n1 n2
  obtain ⟨h1, h2, h3⟩ := n1
  obtain ⟨g1, g2, g3⟩ := n2
  obtain ⟨l1, l2, l3⟩ := low_f b1 b2
  have s1 := big_small (k := (b1 - lowP b1 b2).toNat) h1 (by omega)
  have s2 := big_small (k := (b2 - lowP b1 b2).toNat) g1 (by omega)
  have p1 : (10 : Nat) ^ 101 = 10 ^ 100 * 10 := Nat.pow_succ _ _
  have o := x_ofpower m (w := a1 * 10 ^ (b1 - lowP b1 b2).toNat + a2 * 10 ^ (b2 - lowP b1 b2).toNat) (p := lowP b1 b2) (by omega) (by omega) (by omega)
  simp?! [v_plus, g_plus, t1_plus, e, o, finR_ret]
  rfl
theorem x_turned {a b : Int} : d_turned [.tup [.int a, .int b]] = .ok (.tup [.int (-a), .int b]) := by
  simp?! [v_turned, g_turned]
theorem x_minus (m : Mn) {a1 b1 a2 b2 : Int} (n1 : NumB a1 b1) (n2 : NumB a2 b2) : d_minus [.tup [.int a1, .int b1], .tup [.int a2, .int b2], .str m.s] = optR (exZ m (plU a1 b1 (-a2) b2) (plL b1 b2)) := by
  have p := x_plus m n1 (show NumB (-a2) b2 from ⟨by rw [Int.natAbs_neg]; exact n2.1, n2.2⟩)
  simp?! [v_minus, g_minus, x_turned, p, finR_ret]
theorem x_times (m : Mn) {a1 b1 a2 b2 : Int} (n1 : NumB a1 b1) (n2 : NumB a2 b2) : d_times [.tup [.int a1, .int b1], .tup [.int a2, .int b2], .str m.s] = optR (exZ m (a1 * a2 * 10 ^ (b1 + b2).toNat) (10 ^ (-(b1 + b2)).toNat)) := by
  obtain ⟨h1, h2, h3⟩ := n1
  obtain ⟨g1, g2, g3⟩ := n2
  have s1 : (a1 * a2).natAbs < 10 ^ 101 := by
    rw [Int.natAbs_mul]
    have q1 : a1.natAbs * a2.natAbs ≤ 10 ^ 8 * 10 ^ 8 := Nat.mul_le_mul (Nat.le_of_lt h1) (Nat.le_of_lt g1)
    have q2 : (10 : Nat) ^ 17 ≤ 10 ^ 101 := pow10_le (by decide)
    omega
  have o := x_ofpower m (w := a1 * a2) (p := b1 + b2) s1 (by omega) (by omega)
  simp?! [v_times, g_times, o, finR_ret]
theorem x_over (m : Mn) {a1 b1 a2 b2 : Int} (n1 : NumB a1 b1) (n2 : NumB a2 b2) : d_over [.tup [.int a1, .int b1], .tup [.int a2, .int b2], .str m.s] = if a2 = 0 then .ex "NoDeed" else optR (exZ m (a1 * 10 ^ (b1 - b2).toNat) (a2 * 10 ^ (-(b1 - b2)).toNat)) := by
  obtain ⟨h1, h2, h3⟩ := n1
  obtain ⟨g1, g2, g3⟩ := n2
  by_cases h0 : a2 = 0
  · subst h0
    rw [if_pos rfl]
    simp?! [v_over, g_over, beq_self_eq_true]
  · rw [if_neg h0]
    have e0 : (a2 == 0) = false := by simpa using h0
    have t1 := x_tenN (n := (b1 - b2).toNat) (by omega)
    have t2 := x_tenN (n := (-(b1 - b2)).toNat) (by omega)
    have m1 := mul_a (k := (b1 - b2).toNat) h1 (by omega)
    have m2 := mul_a (k := (-(b1 - b2)).toNat) g1 (by omega)
    have hp := pow_ge1 (-(b1 - b2)).toNat
    have ex := x_exact m (u := a1 * 10 ^ (b1 - b2).toNat) (l := a2 * 10 ^ (-(b1 - b2)).toNat) (Int.mul_ne_zero h0 (by omega)) (Nat.lt_of_lt_of_le (big_small h1 (by omega)) (pow10_le (by decide))) (Nat.lt_of_lt_of_le (big_small g1 (by omega)) (pow10_le (by decide)))
    simp?! [v_over, g_over, t1_over, t2_over, e0, maxz, t1, t2, m1, m2, ex, finR_ret]
theorem x_less {a1 b1 a2 b2 : Int} (n1 : NumB a1 b1) (n2 : NumB a2 b2) : d_less [.tup [.int a1, .int b1], .tup [.int a2, .int b2]] = .ok (.bl (decide (a1 * 10 ^ (b1 - lowP b1 b2).toNat < a2 * 10 ^ (b2 - lowP b1 b2).toNat))) := by
  simp?! [v_less, g_less, t1_less, x_level n1 n2]
/-! the law's -/
theorem pl_same {a1 b1 a2 b2 : Int} {lo : Int} (hlo : lo = if 0 < lowP b1 b2 then 0 else lowP b1 b2) : a1 * 10 ^ (b1 - lo).toNat + a2 * 10 ^ (b2 - lo).toNat = plU a1 b1 a2 b2 ∧ (10 : Int) ^ (-lo).toNat = plL b1 b2 := by
  obtain ⟨l1, l2, l3⟩ := low_f b1 b2
  unfold plU plL
  by_cases h : 0 < lowP b1 b2
  · rw [if_pos h] at hlo
    subst hlo
    have e1 : (b1 - 0).toNat = (b1 - lowP b1 b2).toNat + (lowP b1 b2).toNat := by omega
    have e2 : (b2 - 0).toNat = (b2 - lowP b1 b2).toNat + (lowP b1 b2).toNat := by omega
    have e3 : (-(lowP b1 b2)).toNat = 0 := by omega
    rw [e1, e2, e3, Int.pow_add, Int.pow_add, Int.add_mul, Int.mul_assoc, Int.mul_assoc]
    exact ⟨rfl, rfl⟩
  · rw [if_neg h] at hlo
    subst hlo
    have e : (lowP b1 b2).toNat = 0 := by omega
    rw [e, Int.pow_zero, Int.mul_one]
    exact ⟨rfl, rfl⟩
theorem pl_bound {a1 b1 a2 b2 : Int} (n1 : NumB a1 b1) (n2 : NumB a2 b2) : FracOk (plU a1 b1 a2 b2) (plL b1 b2) := by
  obtain ⟨h1, h2, h3⟩ := n1
  obtain ⟨g1, g2, g3⟩ := n2
  obtain ⟨l1, l2, l3⟩ := low_f b1 b2
  have s1 := big_small (k := (b1 - lowP b1 b2).toNat) h1 (by omega)
  have s2 := big_small (k := (b2 - lowP b1 b2).toNat) g1 (by omega)
  have p1 : (10 : Nat) ^ 101 = 10 ^ 100 * 10 := Nat.pow_succ _ _
  have hp := pow_ge1 (-(lowP b1 b2)).toNat
  unfold plU plL
  refine ⟨by omega, Nat.lt_of_lt_of_le (natAbs_mul_pow (k := 101) (by omega)) (pow10_le (by omega)), by rw [pow_z]; exact Nat.pow_lt_pow_right (by decide) (by omega)⟩
theorem ld_pm (m : Mn) {a1 b1 a2 b2 : Int} {wd : Str} {s : Int} (n1 : NumB a1 b1) (n2 : NumB a2 b2) (w1 : (wd == Str.ofString "times") = false) (w2 : (wd == Str.ofString "over") = false) (ws : 1 - 2 * (if (wd == Str.ofString "minus") = true then (1 : Int) else 0) = s) (hs : s = 1 ∨ s = -1) :
    d__law_deed [.str wd, .tup [.int a1, .int b1], .tup [.int a2, .int b2], .str m.s] = .ok (optL (exZ m (plU a1 b1 (s * a2) b2) (plL b1 b2))) := by
  have n3 : NumB (s * a2) b2 := ⟨by rcases hs with e | e <;> rw [e] <;> simp <;> exact n2.1, n2.2⟩
  obtain ⟨f1, f2, f3⟩ := pl_bound n1 n3
  have ex := x_lexact m f1 f2 f3
  obtain ⟨h1, h2, h3⟩ := n1
  obtain ⟨g1, g2, g3⟩ := n3
  obtain ⟨l1, l2, l3⟩ := low_f b1 b2
  have e : (if b2 < b1 then b2 else b1) = lowP b1 b2 := rfl
  generalize hlo : (if 0 < lowP b1 b2 then (0 : Int) else lowP b1 b2) = lo
  have lb : lo ≤ b1 ∧ lo ≤ b2 ∧ lo ≤ 0 ∧ -48 ≤ lo := by
    rw [← hlo]
    split <;> omega
  obtain ⟨q1, q2⟩ := pl_same (a1 := a1) (a2 := s * a2) hlo.symm
  have t1 := x_ltenZ (k := b1 - lo) (by omega) (by omega)
  have t2 := x_ltenZ (k := b2 - lo) (by omega) (by omega)
  have t3 := x_ltenZ (k := -lo) (by omega) (by omega)
  have m1 := mul_a (k := (b1 - lo).toNat) h1 (by omega)
  have m2 := mul_a (k := (b2 - lo).toNat) g1 (by omega)
  have m3 : mulD (.int s) (.int a2) = some (.int (s * a2)) := mul_l (by rcases hs with e | e <;> rw [e] <;> decide)
  rw [← q1, ← q2] at ex
  rw [← q1, ← q2]
  simp?! [v__law_deed, g__law_deed, t1__law_deed, t2__law_deed, t3__law_deed, t4__law_deed, t5__law_deed, t6__law_deed, w1, w2, min_iii, e, ws, hlo, t1, t2, t3, m1, m2, m3, ex]
theorem ld_plus (m : Mn) {a1 b1 a2 b2 : Int} (n1 : NumB a1 b1) (n2 : NumB a2 b2) : d__law_deed [.str "plus", .tup [.int a1, .int b1], .tup [.int a2, .int b2], .str m.s] = .ok (optL (exZ m (plU a1 b1 a2 b2) (plL b1 b2))) := by
  have := ld_pm m (wd := "plus") (s := 1) n1 n2 (by decide +kernel) (by decide +kernel) (by decide +kernel) (.inl rfl)
  rw [Int.one_mul] at this
  exact this
theorem ld_minus (m : Mn) {a1 b1 a2 b2 : Int} (n1 : NumB a1 b1) (n2 : NumB a2 b2) : d__law_deed [.str "minus", .tup [.int a1, .int b1], .tup [.int a2, .int b2], .str m.s] = .ok (optL (exZ m (plU a1 b1 (-a2) b2) (plL b1 b2))) := by
  have := ld_pm m (wd := "minus") (s := -1) n1 n2 (by decide +kernel) (by decide +kernel) (by decide +kernel) (.inr rfl)
  rw [Int.neg_one_mul] at this
  exact this
theorem ld_times (m : Mn) {a1 b1 a2 b2 : Int} (n1 : NumB a1 b1) (n2 : NumB a2 b2) : d__law_deed [.str "times", .tup [.int a1, .int b1], .tup [.int a2, .int b2], .str m.s] = .ok (optL (exZ m (a1 * a2 * 10 ^ (b1 + b2).toNat) (10 ^ (-(b1 + b2)).toNat))) := by
  obtain ⟨h1, h2, h3⟩ := n1
  obtain ⟨g1, g2, g3⟩ := n2
  have s1 : (a1 * a2).natAbs < 10 ^ 17 := by
    rw [Int.natAbs_mul]
    have q1 : a1.natAbs * a2.natAbs ≤ 10 ^ 8 * 10 ^ 8 := Nat.mul_le_mul (Nat.le_of_lt h1) (Nat.le_of_lt g1)
    omega
  have hp := pow_ge1 (-(b1 + b2)).toNat
  have t1 := x_lten (n := (b1 + b2).toNat) (by omega)
  have t2 := x_lten (n := (-(b1 + b2)).toNat) (by omega)
  have m0 : mulD (.int a1) (.int a2) = some (.int (a1 * a2)) := mul_l (by omega)
  have m1 := mul_t (u := a1 * a2) (n := (b1 + b2).toNat) (Nat.lt_of_lt_of_le s1 (pow10_le (by decide))) (by omega)
  have ex := x_lexact m (u := a1 * a2 * 10 ^ (b1 + b2).toNat) (l := 10 ^ (-(b1 + b2)).toNat) (by omega) (Nat.lt_of_lt_of_le (natAbs_mul_pow s1) (pow10_le (by omega))) (by rw [pow_z]; exact Nat.pow_lt_pow_right (by decide) (by omega))
  simp?! [v__law_deed, g__law_deed, beq_self_eq_true, maxz, t1, t2, m0, m1, ex]
theorem ld_over (m : Mn) {a1 b1 a2 b2 : Int} (n1 : NumB a1 b1) (n2 : NumB a2 b2) (h0 : a2 ≠ 0) : d__law_deed [.str "over", .tup [.int a1, .int b1], .tup [.int a2, .int b2], .str m.s] = .ok (optL (exZ m (a1 * 10 ^ (b1 - b2).toNat) (a2 * 10 ^ (-(b1 - b2)).toNat))) := by
  obtain ⟨h1, h2, h3⟩ := n1
  obtain ⟨g1, g2, g3⟩ := n2
  have w1 : (Str.ofString "over" == Str.ofString "times") = false := by decide +kernel
  have t1 := x_lten (n := (b1 - b2).toNat) (by omega)
  have t2 := x_lten (n := (-(b1 - b2)).toNat) (by omega)
  have m1 := mul_a (k := (b1 - b2).toNat) h1 (by omega)
  have m2 := mul_a (k := (-(b1 - b2)).toNat) g1 (by omega)
  have hp := pow_ge1 (-(b1 - b2)).toNat
  have ex := x_lexact m (u := a1 * 10 ^ (b1 - b2).toNat) (l := a2 * 10 ^ (-(b1 - b2)).toNat) (Int.mul_ne_zero h0 (by omega)) (Nat.lt_of_lt_of_le (big_small h1 (by omega)) (pow10_le (by decide))) (Nat.lt_of_lt_of_le (big_small g1 (by omega)) (pow10_le (by decide)))
  simp?! [v__law_deed, g__law_deed, t1__law_deed, w1, beq_self_eq_true, maxz, t1, t2, m1, m2, ex]
theorem told_def {f : Rho → Res D} {ρ : Rho} : toldD f ρ = toldR (f ρ) := rfl
def tv : Option (Int × Int) → D
  | none => .tup [.str "refused", .int 0]
  | some (a, b) => .tup [.str "told", .tup [.int a, .int b]]
theorem told_opt {z : Option (Int × Int)} : toldR (optR z) = .ok (tv z) := by
  cases z with
  | none => rfl
  | some p => rfl
theorem told_nodeed : toldR (.ex "NoDeed") = .ok (.tup [.str "refused", .int 2]) := rfl
theorem x_right {z : Option (Int × Int)} : d__law_right [tv z, optL z] = .ok (.bl true) := by
  cases z with
  | none =>
    have n1 := eq_same (d := .tup [.str "refused", .int 0]) pl_ref
    have n2 : isN .non .non = some (.bl true) := rfl
    simp?! [v__law_right, g__law_right, tv, optL, n1, n2, if_true]
  | some p =>
    obtain ⟨a, b⟩ := p
    have n1 := eq_same (pl_told (d := .tup [.int a, .int b]) rfl)
    have n2 : isN (.tup [.int a, .int b]) .non = some (.bl false) := rfl
    simp?! [v__law_right, g__law_right, tv, optL, n1, n2, if_false, Bool.false_eq_true]
/-! ### k10 -/
theorem kit_bb0 : kitB "bool" "bool" = some true := by decide +kernel
theorem tail10 (m : Mn) {s : D} {a1 b1 a2 b2 : Int} {x y z : En} (n1 : NumB a1 b1) (n2 : NumB a2 b2) : finR (t4_law [.z s, .z (.tup [.int a1, .int b1]), .z (.tup [.int a2, .int b2]), .z (.str m.s), x, y, z]) = .ok (.bl true) := by
  have e1 := x_plus m n1 n2
  have e2 := x_minus m n1 n2
  have e3 := x_times m n1 n2
  have e4 := x_over m n1 n2
  have k1 := ld_plus m n1 n2
  have k2 := ld_minus m n1 n2
  have k3 := ld_times m n1 n2
  have key : finR (t4_law [.z s, .z (.tup [.int a1, .int b1]), .z (.tup [.int a2, .int b2]), .z (.str m.s), x, y, z]) = finR (t7_law [.z s, .z (.tup [.int a1, .int b1]), .z (.tup [.int a2, .int b2]), .z (.str m.s), x, y, z]) := by
    simp?! [t4_law, t5_law, t6_law, told_def, e1, e2, e3, told_opt, k1, k2, k3, x_right]
  rw [key]
  have key2 : ∃ w, finR (t7_law [.z s, .z (.tup [.int a1, .int b1]), .z (.tup [.int a2, .int b2]), .z (.str m.s), x, y, z]) = finR (t9_law [.z s, .z (.tup [.int a1, .int b1]), .z (.tup [.int a2, .int b2]), .z (.str m.s), w, y, z]) := by
    by_cases h0 : a2 = 0
    · rw [if_pos h0] at e4
      have z0 : (a2 == 0) = true := by simpa using h0
      have n3 := ne_same (d := .tup [.str "refused", .int 2]) pl_ref
      refine ⟨.z (.tup [.str "refused", .int 2]), ?_⟩
      simp?! [t7_law, t8_law, told_def, e4, told_nodeed, z0, n3]
    · rw [if_neg h0] at e4
      have z0 : (a2 == 0) = false := by simpa using h0
      have k4 := ld_over m n1 n2 h0
      refine ⟨.z (tv (exZ m (a1 * 10 ^ (b1 - b2).toNat) (a2 * 10 ^ (-(b1 - b2)).toNat))), ?_⟩
      simp?! [t7_law, t8_law, told_def, e4, told_opt, z0, k4, x_right]
  obtain ⟨w, key2⟩ := key2
  rw [key2]
  have e5 := x_less n1 n2
  obtain ⟨h1, h2, h3⟩ := n1
  obtain ⟨g1, g2, g3⟩ := n2
  obtain ⟨l1, l2, l3⟩ := low_f b1 b2
  have e : (if b2 < b1 then b2 else b1) = lowP b1 b2 := rfl
  have t1 := x_ltenZ (k := b1 - lowP b1 b2) (by omega) (by omega)
  have t2 := x_ltenZ (k := b2 - lowP b1 b2) (by omega) (by omega)
  have m1 := mul_a (k := (b1 - lowP b1 b2).toNat) h1 (by omega)
  have m2 := mul_a (k := (b2 - lowP b1 b2).toNat) g1 (by omega)
  have n4 := eq_same (d := .tup [.int (-a1), .int b1]) rfl
  simp?! [t9_law, t10_law, t11_law, t12_law, e, t1, t2, m1, m2, e5, x_turned, n4, isi_b kit_bb0, beq_self_eq_true]
theorem law_true (ns : List Int) (h : ns.length ≤ 63) (hz : ∀ z ∈ ns, Builtin.Int.intBits z ≤ 1048576) : d_law [.arr ns] = .ok (.bl true) := by
  obtain ⟨m0, e0, g0, g1⟩ := x_mixed (ns := ns) (k := 0) (by omega) (by omega)
  obtain ⟨m1, e1, h0, h1⟩ := x_mixed (ns := ns) (k := 1) (by omega) (by omega)
  obtain ⟨m2, e2, _, _⟩ := x_mixed (ns := ns) (k := 2) (by omega) (by omega)
  obtain ⟨m3, e3, i0, i1⟩ := x_mixed (ns := ns) (k := 3) (by omega) (by omega)
  obtain ⟨a1, b1, f1, ok1⟩ := x_number g0 g1
  obtain ⟨a2, b2, f2, ok2⟩ := x_number h0 h1
  obtain ⟨m, em⟩ := x_manner (n := m2)
  have n1 := num_b ok1
  have n2 := num_b ok2
  by_cases hc : m3 % 4 = 1
  · obtain ⟨v, v1, v2⟩ := menu (xs := [1, -1, 3]) (n := (m3 / 4 % 3).toNat) (by simp; omega)
    simp only [List.map_cons, List.map_nil] at v2
    have hv : -1 ≤ v ∧ v ≤ 3 := by simp at v1; omega
    have p10 : (10 : Nat) ^ 9 ≤ 10 ^ 500 := pow10_le (by decide)
    have ht : ∃ a b, d__law_tidy [.int (a1 + v), .int b1] = .ok (.tup [.int a, .int b]) ∧ a.natAbs < 10 ^ 9 := by
      by_cases h0 : a1 + v = 0
      · exact ⟨0, 0, by rw [h0]; exact x_tidy0, by decide⟩
      · obtain ⟨k, a, t1, t2, t3⟩ := x_tidy (a := a1 + v) (b := b1) h0 (Nat.lt_of_lt_of_le (show (a1 + v).natAbs < 10 ^ 9 by have := n1.1; omega) (pow10_le (by decide)))
        refine ⟨a, _, t3, ?_⟩
        have q : (a1 + v).natAbs = a.natAbs * 10 ^ k := by rw [t1, Int.natAbs_mul, pow_z]
        have q2 : a.natAbs * 1 ≤ a.natAbs * 10 ^ k := Nat.mul_le_mul_left _ (pow10_pos k)
        have := n1.1
        omega
    obtain ⟨a, b, t1, t2⟩ := ht
    have hh := x_lheight (a := a) (b := b) (by omega)
    by_cases d1 : 99999999 < (a.natAbs : Int)
    · have key : d_law [.arr ns] = finR (t4_law [.z (.arr ns), .z (.tup [.int a1, .int b1]), .z (.tup [.int a1, .int b1]), .z (.str m.s), .u, .u, .u]) := by
        simp?! [v_law, g_law, t1_law, t2_law, t3_law, e0, e1, e2, e3, f1, f2, em, hc, beq_self_eq_true, v2, t1, abs_if, d1]
      rw [key]
      exact tail10 m n1 n1
    · have d1' : decide (99999999 < (a.natAbs : Int)) = false := decide_eq_false d1
      by_cases d2 : -40 ≤ b + (figs a.natAbs : Int) - 1 ∧ b + (figs a.natAbs : Int) - 1 ≤ 40
      · have hd : (decide (-40 ≤ b + (figs a.natAbs : Int) - 1) && decide (b + (figs a.natAbs : Int) - 1 ≤ 40)) = true := by simpa using d2
        have key : d_law [.arr ns] = finR (t4_law [.z (.arr ns), .z (.tup [.int a1, .int b1]), .z (.tup [.int a, .int b]), .z (.str m.s), .u, .u, .u]) := by
          simp?! [v_law, g_law, t1_law, t2_law, t3_law, e0, e1, e2, e3, f1, f2, em, hc, beq_self_eq_true, v2, t1, abs_if, d1', hh, hd]
        rw [key]
        have fp := figs_pos a.natAbs
        have fl := figs_le (k := 8) (by decide) (show a.natAbs < 10 ^ 8 by omega)
        exact tail10 m n1 ⟨by omega, by omega, by omega⟩
      · have hd : (decide (-40 ≤ b + (figs a.natAbs : Int) - 1) && decide (b + (figs a.natAbs : Int) - 1 ≤ 40)) = false := by simpa using d2
        have key : d_law [.arr ns] = finR (t4_law [.z (.arr ns), .z (.tup [.int a1, .int b1]), .z (.tup [.int a1, .int b1]), .z (.str m.s), .u, .u, .u]) := by
          simp?! [v_law, g_law, t1_law, t2_law, t3_law, e0, e1, e2, e3, f1, f2, em, hc, beq_self_eq_true, v2, t1, abs_if, d1', hh, hd]
        rw [key]
        exact tail10 m n1 n1
  · have ec : (m3 % 4 == 1) = false := by simpa using hc
    have key : d_law [.arr ns] = finR (t4_law [.z (.arr ns), .z (.tup [.int a1, .int b1]), .z (.tup [.int a2, .int b2]), .z (.str m.s), .u, .u, .u]) := by
      simp?! [v_law, g_law, t1_law, t2_law, t3_law, e0, e1, e2, e3, f1, f2, em, ec]
    rw [key]
    exact tail10 m n1 n2
def dd_ten : He.DefD := ⟨("ten", none), "ten", "ten", defArgs s_ten, defBody s_ten, defScope s_ten, [], []⟩
def dd_figures_of : He.DefD := ⟨("figures_of", none), "figures_of", "figures_of", defArgs s_figures_of, defBody s_figures_of, defScope s_figures_of, [], []⟩
def dd_height : He.DefD := ⟨("height", none), "height", "height", defArgs s_height, defBody s_height, defScope s_height, [], []⟩
def dd_taken : He.DefD := ⟨("taken", none), "taken", "taken", defArgs s_taken, defBody s_taken, defScope s_taken, [], []⟩
def dd_by_size : He.DefD := ⟨("by_size", none), "by_size", "by_size", defArgs s_by_size, defBody s_by_size, defScope s_by_size, [], []⟩
def dd_fitted : He.DefD := ⟨("fitted", none), "fitted", "fitted", defArgs s_fitted, defBody s_fitted, defScope s_fitted, [], []⟩
def dd_power_for : He.DefD := ⟨("power_for", none), "power_for", "power_for", defArgs s_power_for, defBody s_power_for, defScope s_power_for, [], []⟩
def dd_exact : He.DefD := ⟨("exact", none), "exact", "exact", defArgs s_exact, defBody s_exact, defScope s_exact, [], []⟩
def dd_level : He.DefD := ⟨("level", none), "level", "level", defArgs s_level, defBody s_level, defScope s_level, [], []⟩
def dd_of_power : He.DefD := ⟨("of_power", none), "of_power", "of_power", defArgs s_of_power, defBody s_of_power, defScope s_of_power, [], []⟩
def dd_plus : He.DefD := ⟨("plus", none), "plus", "plus", defArgs s_plus, defBody s_plus, defScope s_plus, [], []⟩
def dd_turned : He.DefD := ⟨("turned", none), "turned", "turned", defArgs s_turned, defBody s_turned, defScope s_turned, [], []⟩
def dd_minus : He.DefD := ⟨("minus", none), "minus", "minus", defArgs s_minus, defBody s_minus, defScope s_minus, [], []⟩
def dd_times : He.DefD := ⟨("times", none), "times", "times", defArgs s_times, defBody s_times, defScope s_times, [], []⟩
def dd_over : He.DefD := ⟨("over", none), "over", "over", defArgs s_over, defBody s_over, defScope s_over, [], []⟩
def dd_less : He.DefD := ⟨("less", none), "less", "less", defArgs s_less, defBody s_less, defScope s_less, [], []⟩
def dd__law_cell_at : He.DefD := ⟨("_law_cell_at", none), "_law_cell_at", "_law_cell_at", defArgs s__law_cell_at, defBody s__law_cell_at, defScope s__law_cell_at, [], []⟩
def dd__law_mixed : He.DefD := ⟨("_law_mixed", none), "_law_mixed", "_law_mixed", defArgs s__law_mixed, defBody s__law_mixed, defScope s__law_mixed, [], []⟩
def dd__law_drawn : He.DefD := ⟨("_law_drawn", none), "_law_drawn", "_law_drawn", defArgs s__law_drawn, defBody s__law_drawn, defScope s__law_drawn, [], []⟩
def dd__law_ten : He.DefD := ⟨("_law_ten", none), "_law_ten", "_law_ten", defArgs s__law_ten, defBody s__law_ten, defScope s__law_ten, [], []⟩
def dd__law_height : He.DefD := ⟨("_law_height", none), "_law_height", "_law_height", defArgs s__law_height, defBody s__law_height, defScope s__law_height, [], []⟩
def dd__law_tidy : He.DefD := ⟨("_law_tidy", none), "_law_tidy", "_law_tidy", defArgs s__law_tidy, defBody s__law_tidy, defScope s__law_tidy, [], []⟩
def dd__law_number : He.DefD := ⟨("_law_number", none), "_law_number", "_law_number", defArgs s__law_number, defBody s__law_number, defScope s__law_number, [], []⟩
def dd__law_exact : He.DefD := ⟨("_law_exact", none), "_law_exact", "_law_exact", defArgs s__law_exact, defBody s__law_exact, defScope s__law_exact, [], []⟩
def dd__law_manner : He.DefD := ⟨("_law_manner", none), "_law_manner", "_law_manner", defArgs s__law_manner, defBody s__law_manner, defScope s__law_manner, [], []⟩
def dd__law_deed : He.DefD := ⟨("_law_deed", none), "_law_deed", "_law_deed", defArgs s__law_deed, defBody s__law_deed, defScope s__law_deed, [], []⟩
def dd__law_told : He.DefD := ⟨("_law_told", none), "_law_told", "_law_told", defArgs s__law_told, defBody s__law_told, defScope s__law_told, [], []⟩
def dd__law_right : He.DefD := ⟨("_law_right", none), "_law_right", "_law_right", defArgs s__law_right, defBody s__law_right, defScope s__law_right, [], []⟩
def dd_law : He.DefD := ⟨("law", none), "law", "law", defArgs s_law, defBody s_law, defScope s_law, [], []⟩
def fn : List He.DefD := [dd_ten, dd_figures_of, dd_height, dd_taken, dd_by_size, dd_fitted, dd_power_for, dd_exact, dd_level, dd_of_power, dd_plus, dd_turned, dd_minus, dd_times, dd_over, dd_less, dd__law_cell_at, dd__law_mixed, dd__law_drawn, dd__law_ten, dd__law_height, dd__law_tidy, dd__law_number, dd__law_exact, dd__law_manner, dd__law_deed, dd__law_told, dd__law_right, dd_law]
def fa : List He.Fa := [.glo "ten", .glo "figures_of", .glo "height", .glo "taken", .glo "by_size", .glo "fitted", .glo "power_for", .glo "exact", .glo "level", .glo "of_power", .glo "plus", .glo "turned", .glo "minus", .glo "times", .glo "over", .glo "less", .glo "_law_cell_at", .glo "_law_mixed", .glo "_law_drawn", .glo "_law_ten", .glo "_law_height", .glo "_law_tidy", .glo "_law_number", .glo "_law_exact", .glo "_law_manner", .glo "_law_deed", .glo "_law_told", .glo "_law_right", .glo "law", .free "int", .free "abs", .free "str", .free "len", .free "max", .free "min", .free "range", .free "bool", .free "isinstance", .int "HIGHEST" (40), .int "MOST" (8), .glo "TooGreat", .exc "TooGreat", .glo "NoDeed", .exc "NoDeed", .glo "NoText", .glo "NoKey", .glo "NoRoom", .glo "PileError", .free "ValueError"]
def ts : List He.Tab := []
def tf : List He.Defn := [("law", none)]
def ex (K : PySem.W.Frag) : Bool := (toldB K && (huB K "law" && true))
abbrev R : PySem.W.OpenRow := PySem.W.OpenLaw.row PySem.Challenge.rw_pocketpile_k10_deeds
abbrev hk : PySem.W.Hook := He.hookX 5 fa fn ts tf ex
def ob (s : PySem.W.SharedT) : He.AlX := He.obsX 5 fa fn ts tf ex (HandSHeadRun.getT s)
theorem ob_eq (s : PySem.W.SharedT) : ob s = hk.obs s.abs := He.obsX_eq (HandSHeadRun.getT_eq s)
def names : List PySem.Str := (["PileError", "TooGreat", "NoText", "NoDeed", "NoKey", "NoRoom", "MOST", "HIGHEST", "ten", "figures_of", "height", "taken", "by_size", "fitted", "power_for", "exact", "level", "of_power", "plus", "turned"] : List PySem.Str) ++ (["minus", "times", "over", "less", "_law_cell_at", "_law_mixed", "_law_drawn", "_law_ten", "_law_height", "_law_tidy", "_law_number", "_law_exact", "_law_manner", "_law_deed", "_law_told", "_law_right"] : List PySem.Str)
theorem run (w : World) : HandSHeadRun.RunEq R (PySem.W.view R.prog [40]) hk ob 3000 names w := by
  intro os
  kernel_rfl
theorem top_of {w : World} {K : PySem.W.Frag} {h : Heap} {mg : Str → Option Value} (X : K.In h) (G : h.Ns mainGlobals mg) (c : He.SaysX fa fn ts tf ex w h K) : Top w K mg :=
  ⟨(c.t.d.def_ 0 (d := dd_ten) rfl),
   (He.glo_ok X G (c.t.d.fact 0 (f := .glo "ten") rfl)),
   (c.t.d.def_ 1 (d := dd_figures_of) rfl),
   (He.glo_ok X G (c.t.d.fact 1 (f := .glo "figures_of") rfl)),
   (c.t.d.def_ 2 (d := dd_height) rfl),
   (He.glo_ok X G (c.t.d.fact 2 (f := .glo "height") rfl)),
   (c.t.d.def_ 3 (d := dd_taken) rfl),
   (He.glo_ok X G (c.t.d.fact 3 (f := .glo "taken") rfl)),
   (c.t.d.def_ 4 (d := dd_by_size) rfl),
   (He.glo_ok X G (c.t.d.fact 4 (f := .glo "by_size") rfl)),
   (c.t.d.def_ 5 (d := dd_fitted) rfl),
   (He.glo_ok X G (c.t.d.fact 5 (f := .glo "fitted") rfl)),
   (c.t.d.def_ 6 (d := dd_power_for) rfl),
   (He.glo_ok X G (c.t.d.fact 6 (f := .glo "power_for") rfl)),
   (c.t.d.def_ 7 (d := dd_exact) rfl),
   (He.glo_ok X G (c.t.d.fact 7 (f := .glo "exact") rfl)),
   (c.t.d.def_ 8 (d := dd_level) rfl),
   (He.glo_ok X G (c.t.d.fact 8 (f := .glo "level") rfl)),
   (c.t.d.def_ 9 (d := dd_of_power) rfl),
   (He.glo_ok X G (c.t.d.fact 9 (f := .glo "of_power") rfl)),
   (c.t.d.def_ 10 (d := dd_plus) rfl),
   (He.glo_ok X G (c.t.d.fact 10 (f := .glo "plus") rfl)),
   (c.t.d.def_ 11 (d := dd_turned) rfl),
   (He.glo_ok X G (c.t.d.fact 11 (f := .glo "turned") rfl)),
   (c.t.d.def_ 12 (d := dd_minus) rfl),
   (He.glo_ok X G (c.t.d.fact 12 (f := .glo "minus") rfl)),
   (c.t.d.def_ 13 (d := dd_times) rfl),
   (He.glo_ok X G (c.t.d.fact 13 (f := .glo "times") rfl)),
   (c.t.d.def_ 14 (d := dd_over) rfl),
   (He.glo_ok X G (c.t.d.fact 14 (f := .glo "over") rfl)),
   (c.t.d.def_ 15 (d := dd_less) rfl),
   (He.glo_ok X G (c.t.d.fact 15 (f := .glo "less") rfl)),
   (c.t.d.def_ 16 (d := dd__law_cell_at) rfl),
   (He.glo_ok X G (c.t.d.fact 16 (f := .glo "_law_cell_at") rfl)),
   (c.t.d.def_ 17 (d := dd__law_mixed) rfl),
   (He.glo_ok X G (c.t.d.fact 17 (f := .glo "_law_mixed") rfl)),
   (c.t.d.def_ 18 (d := dd__law_drawn) rfl),
   (He.glo_ok X G (c.t.d.fact 18 (f := .glo "_law_drawn") rfl)),
   (c.t.d.def_ 19 (d := dd__law_ten) rfl),
   (He.glo_ok X G (c.t.d.fact 19 (f := .glo "_law_ten") rfl)),
   (c.t.d.def_ 20 (d := dd__law_height) rfl),
   (He.glo_ok X G (c.t.d.fact 20 (f := .glo "_law_height") rfl)),
   (c.t.d.def_ 21 (d := dd__law_tidy) rfl),
   (He.glo_ok X G (c.t.d.fact 21 (f := .glo "_law_tidy") rfl)),
   (c.t.d.def_ 22 (d := dd__law_number) rfl),
   (He.glo_ok X G (c.t.d.fact 22 (f := .glo "_law_number") rfl)),
   (c.t.d.def_ 23 (d := dd__law_exact) rfl),
   (He.glo_ok X G (c.t.d.fact 23 (f := .glo "_law_exact") rfl)),
   (c.t.d.def_ 24 (d := dd__law_manner) rfl),
   (He.glo_ok X G (c.t.d.fact 24 (f := .glo "_law_manner") rfl)),
   (c.t.d.def_ 25 (d := dd__law_deed) rfl),
   (He.glo_ok X G (c.t.d.fact 25 (f := .glo "_law_deed") rfl)),
   (c.t.d.def_ 26 (d := dd__law_told) rfl),
   (He.glo_ok X G (c.t.d.fact 26 (f := .glo "_law_told") rfl)),
   (c.t.d.def_ 27 (d := dd__law_right) rfl),
   (He.glo_ok X G (c.t.d.fact 27 (f := .glo "_law_right") rfl)),
   (c.t.d.def_ 28 (d := dd_law) rfl),
   (He.glo_ok X G (c.t.d.fact 28 (f := .glo "law") rfl)),
   (He.free_ok X G (c.t.d.fact 29 (f := .free "int") rfl)),
   (He.free_ok X G (c.t.d.fact 30 (f := .free "abs") rfl)),
   (He.free_ok X G (c.t.d.fact 31 (f := .free "str") rfl)),
   (He.free_ok X G (c.t.d.fact 32 (f := .free "len") rfl)),
   (He.free_ok X G (c.t.d.fact 33 (f := .free "max") rfl)),
   (He.free_ok X G (c.t.d.fact 34 (f := .free "min") rfl)),
   (He.free_ok X G (c.t.d.fact 35 (f := .free "range") rfl)),
   (He.free_ok X G (c.t.d.fact 36 (f := .free "bool") rfl)),
   (He.free_ok X G (c.t.d.fact 37 (f := .free "isinstance") rfl)),
   (He.int_ok X G (c.t.d.fact 38 (f := .int "HIGHEST" (40)) rfl)),
   (He.int_ok X G (c.t.d.fact 39 (f := .int "MOST" (8)) rfl)),
   (exc_n X G (c.t.d.fact 40 (f := .glo "TooGreat") rfl) (c.t.d.fact 41 (f := .exc "TooGreat") rfl)),
   (exc_n X G (c.t.d.fact 42 (f := .glo "NoDeed") rfl) (c.t.d.fact 43 (f := .exc "NoDeed") rfl)),
   (told_c (toldB_ok (He.ba c.more).1) (He.glo_ok X G (c.t.d.fact 40 (f := .glo "TooGreat") rfl)) (He.glo_ok X G (c.t.d.fact 44 (f := .glo "NoText") rfl)) (He.glo_ok X G (c.t.d.fact 42 (f := .glo "NoDeed") rfl)) (He.glo_ok X G (c.t.d.fact 45 (f := .glo "NoKey") rfl)) (He.glo_ok X G (c.t.d.fact 46 (f := .glo "NoRoom") rfl)) (He.glo_ok X G (c.t.d.fact 47 (f := .glo "PileError") rfl)) (He.free_ok X G (c.t.d.fact 37 (f := .free "isinstance") rfl)) (He.free_ok X G (c.t.d.fact 48 (f := .free "ValueError") rfl))),
   (huB_ok (He.ba (He.ba c.more).2).1)⟩
theorem law_end {l : PySem.W.OpenLaw} {w : World} {K : PySem.W.Frag} {h : Heap} {mg : Str → Option Value} {f : Addr} (X : K.In h) (G : h.Ns mainGlobals mg) (hfa : mg ("law" : Str) = some (.ref f)) (c : He.SaysX fa fn ts tf ex w h K) : LamX.LawAtS l w K (L2.CX l.prog w) 10 63 "script" mg f h := by
  have Z := top_of X G c
  have e := hfa.symm.trans Z.m_law
  cases e
  obtain ⟨fd, Fd⟩ := Z.f_law
  have b := FunD.bindsA (ps := ["script"]) Fd fun _ _ _ _ _ _ us hl => match us, hl with | [_], _ => rfl
  refine lawAtT (T := tabT K) (tf := tf) X c.hd c.out c.empty (fun p hp => ?_) (fd := fd) (den := d_law) (fun s v => b s [v] rfl) law_true fun base h1 h2 h3 => ?_
  · unfold tabT at hp
    simp only [List.mem_cons, List.not_mem_nil, or_false] at hp
    rcases hp with rfl
    · exact ⟨("law", none), by unfold tf; simp, rfl⟩
  · exact law_fn Z h3 Fd
end LW
open PySem PySem.W PySem.Calls PyProof.Rows
set_option maxRecDepth 100000 in
set_option maxHeartbeats 0 in
theorem PySem.Challenge.cw_pocketpile_k10_deeds_holds : PySem.Challenge.rw_pocketpile_k10_deeds.Holds := by
  w_on; o_law
  refine HandSHeadRun.head_any (r := OpenLaw.row PySem.Challenge.rw_pocketpile_k10_deeds) (q := view (OpenLaw.row PySem.Challenge.rw_pocketpile_k10_deeds).prog [40]) (H := LW.hk) (ob := LW.ob) (M := 3000) (loose := LW.names) (d := HandSHeadRun.topDef (OpenLaw.row PySem.Challenge.rw_pocketpile_k10_deeds).prog 40) (kwd := []) LW.ob_eq
    (by kernel_rfl) (fun s => by kernel_rfl) LW.run (by kernel_rfl) (by kernel_rfl) (by kernel_rfl) (by rfl) (by first | assumption | decide +kernel) (by decide +kernel) ⟨rfl, rfl, rfl, rfl, rfl, by decide +kernel⟩ ?hw ?hc
  case hw => w_witness2
  case hc =>
    refine LamX.walk_ofTsE (l := PySem.Challenge.rw_pocketpile_k10_deeds) (n := 63) (k := 10) (x := "script") (CX := fun w => L2.CX (PySem.Challenge.rw_pocketpile_k10_deeds).prog w) rfl (by decide) (by kernel_rfl) ⟨rfl, by decide, by decide⟩ ?F (fun _ _ _ _ _ z => DN.cx_false z)
    intro w mg fa h Y G hmg0
    obtain ⟨K, KX, c⟩ := Y
    have hmg : mg ("law" : PySem.Str) = some (.ref fa) := by
      have e : (HandSHeadRun.topDef (OpenLaw.row PySem.Challenge.rw_pocketpile_k10_deeds).prog 40).name = ("law" : PySem.Str) := by kernel_rfl
      rw [← e]
      exact hmg0
    exact ⟨K, KX, LW.law_end (l := PySem.Challenge.rw_pocketpile_k10_deeds) KX G hmg c⟩
