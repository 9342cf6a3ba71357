import PyProof.Rows.All
import Wide.All
import OpenK.AllK
import Wide.FinOn
import PyProof.EqAt
import PyProof.EqKinds
import PyProof.TupleCall
import HandS.Base
import HandS.Call
import HandS.List
import HandS.Comp
import HandS.Ends
import HandS.Dict
import HandS.Iter
import HandS.Text
import HandS.Words
import HandS.WordsList
import HandS.WordsExc
import HandS.Exc
import HandS.ExcOwn
import HandS.Wide
import HandS.IsInst
import HandS.TupAny
import HandS.TupMul
import HandS.Lambda
import HandS.EndTab
import HandS.HeadWalk
import HandS.HeadHook1
import HandS.HeadHook2
import HandS.Defaults
import HandS.NoneIn
import HandS.Style
import KE.KDictDisplayH
import HandS.HeadEnd
import HandS.Head0
import HandS.Head1
import HandS.Head2
import HandS.HeadHook3
import HandS.HeadHook4
import HandS.Replace
import HandS.ExcIs
import HandS.Flt
import HandS.More
import HandS.TryMany
import HandS.CallLocal
import HandS.Strs
import HandS.ReplaceLit
import HandS.ReplaceList
import HandS.Zip
import PyProof.ReprRoads
import HandS.Deep
import HandS.Small
import PyProof.DictUpdate
import KE.GoesMore
import KE.KItemsList
import HandS.DictTup
import KE.KDictZip
import HandS.ReplaceDef
import KE.GoesEnum
import HandS.Nested
import HandS.StrMore
import KE.KDictCopyH
import KE.KDictKeyed
import KE.KEqDict
import KE.SortData
import KE.KDictPairs
import KE.DataCmp
import KE.IntTextLaws
import PySem.Challenge.RW_pocketpile_k59_lists_anywhere_in_formula
set_option Elab.async false
set_option linter.all false
set_option maxRecDepth 100000
set_option maxHeartbeats 4000000
/-! DN: a program's defs as plain functions of data. The heap is dealt with here, once. -/
namespace DN
open PySem PySem.Spec PyProof.Rows L2
open LamX (Tabs ExtN)

/-- data -/
inductive D where
  | non | bl (b : Bool) | int (i : Int) | str (x : Str) | lst (xs : List D) | tup (xs : List D) | fn (x : Str) | ty (n : String)
  | dK (kvs : List (Key × V)) | dT (kvs : List (List Key × V)) | arr (ns : List Int)
  /-- a tuple of texts that has no dict of its own -/
  | pro (xs : List Str)
  /-- a dict whose keys are nested tuples (an object of the frame's own) -/
  | dic (P : Program) (w : World) (ks vs : List D)
  /-- a thing known by its address alone -/
  | adr (a : Addr)
  /-- an instance of the class c, its attributes (an object of the frame's own) -/
  | ins (c : Str) (ns : List Str) (vs : List D)
  /-- a dict of text keys, frozen; where its address is known, that one -/
  | tab (o : Option Addr) (ks : List Str) (vs : List D)
  /-- a tuple of ints, made at run time -/
  | pw (ks : List Int)
  /-- a tuple that has no dict of its own -/
  | frm (ds : List D)
def kvK (ks : List Str) (vs : List V) : List (Key × V) := (ks.zip vs).map fun q => (Sum.inr q.1, q.2)

/-- what comes: a value, an own error by its class's name, or nothing is promised -/
inductive Res (α : Type) where
  | ok (a : α) | ex (n : Str) | bad
def Res.bind {α β : Type} : Res α → (α → Res β) → Res β
  | .ok a, f => f a
  | .ex n, _ => .ex n
  | .bad, _ => .bad
def Res.map {α β : Type} (r : Res α) (f : α → β) : Res β := r.bind fun a => .ok (f a)
def ofO {α : Type} : Option α → Res α
  | some a => .ok a
  | none => .bad

mutual
inductive Rp (K : PySem.W.Frag) (H : Hp) : V → D → Prop
  | non : Rp K H .non .non
  | bl (b : Bool) : Rp K H (.bl b) (.bl b)
  | int (i : Int) : Rp K H (.int i) (.int i)
  | str (x : Str) : Rp K H (.str x) (.str x)
  | fn (x : Str) : Rp K H (.ref (He.ga K x)) (.fn x)
  | ty (n : String) : Rp K H (.ty n) (.ty n)
  | lst {a : Addr} {xs : List V} {ds : List D} : H a = some (.lst xs) → RpAll K H xs ds → Rp K H (.ref a) (.lst ds)
  | tup {a : Addr} {xs : List V} {ds : List D} : SqT K H a xs → RpAll K H xs ds → Rp K H (.ref a) (.tup ds)
  | dK {a : Addr} {kvs : List (Key × V)} : H a = some (.dK kvs) → Rp K H (.ref a) (.dK kvs)
  | dT {a : Addr} {kvs : List (List Key × V)} : (∃ od, H a = some (.frz od (.dT kvs))) → Rp K H (.ref a) (.dT kvs)
  | arr {a : Addr} {ns : List Int} : SqL K H a (ns.map V.int) → Rp K H (.ref a) (.arr ns)
  | pro {a : Addr} {xs : List Str} : (∃ o : Obj, o.cls = .type "tuple" ∧ o.dict = none ∧ H a = some (.frz o (.tup (xs.map V.str)))) → Rp K H (.ref a) (.pro xs)
  | adr (a : Addr) : Rp K H (.ref a) (.adr a)
  | tab {a : Addr} {o : Option Addr} {ks : List Str} {ws : List V} {ds : List D} : (∀ p, o = some p → a = p) → H a = some (.dK (kvK ks ws)) → ks.length = ws.length → RpAll K H ws ds → Rp K H (.ref a) (.tab o ks ds)
  | pw {a : Addr} {ks : List Int} : H a = some (.tup (ks.map V.int)) → Rp K H (.ref a) (.pw ks)
  | frm {a : Addr} {xs : List V} {ds : List D} : (∃ o : Obj, o.cls = .type "tuple" ∧ o.dict = none ∧ H a = some (.frz o (.tup xs))) → RpAll K H xs ds → Rp K H (.ref a) (.frm ds)
inductive RpAll (K : PySem.W.Frag) (H : Hp) : List V → List D → Prop
  | nil : RpAll K H [] []
  | cons {v : V} {vs : List V} {d : D} {ds : List D} : Rp K H v d → RpAll K H vs ds → RpAll K H (v :: vs) (d :: ds)
end

def Sub (F H : Hp) : Prop := ∀ a o, F a = some o → H a = some o
theorem Sub.refl (F : Hp) : Sub F F := fun _ _ h => h
theorem Sub.trans {F G H : Hp} (a : Sub F G) (b : Sub G H) : Sub F H := fun x o h => b x o (a x o h)
theorem Sub.rd {F H : Hp} {a : Addr} {u : HO} (e : Sub F H) (h : Rd F a u) : Rd H a u := by
  rcases h with h | ⟨o, h⟩
  · exact .inl (e _ _ h)
  · exact .inr ⟨o, e _ _ h⟩
theorem Sub.sl {K : PySem.W.Frag} {F H : Hp} {a : Addr} {xs : List V} (e : Sub F H) (h : SqL K F a xs) : SqL K H a xs := h.elim (fun h => .inl (e.rd h)) .inr
theorem Sub.st {K : PySem.W.Frag} {F H : Hp} {a : Addr} {xs : List V} (e : Sub F H) (h : SqT K F a xs) : SqT K H a xs := h.elim (fun h => .inl (e.rd h)) .inr
mutual
theorem Rp.mono {K : PySem.W.Frag} {F H : Hp} (e : Sub F H) : ∀ {v : V} {d : D}, Rp K F v d → Rp K H v d
  | _, _, .non => .non
  | _, _, .bl b => .bl b
  | _, _, .int i => .int i
  | _, _, .str x => .str x
  | _, _, .fn x => .fn x
  | _, _, .ty n => .ty n
  | _, _, .lst h t => .lst (e _ _ h) (RpAll.mono e t)
  | _, _, .tup h t => .tup (e.st h) (RpAll.mono e t)
  | _, _, .dK h => .dK (e _ _ h)
  | _, _, .dT ⟨od, h⟩ => .dT ⟨od, e _ _ h⟩
  | _, _, .arr h => .arr (e.sl h)
  | _, _, .pro ⟨o, h1, h2, h3⟩ => .pro ⟨o, h1, h2, e _ _ h3⟩
  | _, _, .adr a => .adr a
  | _, _, .tab h1 h2 h3 t => .tab h1 (e _ _ h2) h3 (RpAll.mono e t)
  | _, _, .pw h => .pw (e _ _ h)
  | _, _, .frm ⟨o, h1, h2, h3⟩ t => .frm ⟨o, h1, h2, e _ _ h3⟩ (RpAll.mono e t)
theorem RpAll.mono {K : PySem.W.Frag} {F H : Hp} (e : Sub F H) : ∀ {vs : List V} {ds : List D}, RpAll K F vs ds → RpAll K H vs ds
  | _, _, .nil => .nil
  | _, _, .cons h t => .cons (Rp.mono e h) (RpAll.mono e t)
end
section
variable {K : PySem.W.Frag} {F H : Hp}
theorem RpAll.length : ∀ {vs : List V} {ds : List D}, RpAll K F vs ds → vs.length = ds.length
  | _, _, .nil => rfl
  | _, _, .cons _ t => by rw [List.length_cons, List.length_cons, RpAll.length t]
theorem RpAll.get : ∀ {vs : List V} {ds : List D} {i : Nat} {d : D}, RpAll K F vs ds → ds[i]? = some d → ∃ v, vs[i]? = some v ∧ Rp K F v d
  | _, _, _, _, .nil, e => by simp at e
  | _, _, 0, _, .cons h _, e => by
    simp at e; subst e; exact ⟨_, rfl, h⟩
  | _, _, i + 1, d, .cons _ t, e => by
    obtain ⟨v, h1, h2⟩ := RpAll.get (i := i) (d := d) t (by simpa using e)
    exact ⟨v, by simpa using h1, h2⟩
theorem RpAll.append : ∀ {vs ws : List V} {ds es : List D}, RpAll K F vs ds → RpAll K F ws es → RpAll K F (vs ++ ws) (ds ++ es)
  | _, _, _, _, .nil, s => s
  | _, _, _, _, .cons h t, s => .cons h (RpAll.append t s)
theorem RpAll.take : ∀ {vs : List V} {ds : List D} (n : Nat), RpAll K F vs ds → RpAll K F (vs.take n) (ds.take n)
  | _, _, 0, _ => by simp; exact .nil
  | _, _, _ + 1, .nil => .nil
  | _, _, n + 1, .cons h t => .cons h (RpAll.take n t)
theorem RpAll.drop : ∀ {vs : List V} {ds : List D} (n : Nat), RpAll K F vs ds → RpAll K F (vs.drop n) (ds.drop n)
  | _, _, 0, r => r
  | _, _, _ + 1, .nil => .nil
  | _, _, n + 1, .cons _ t => RpAll.drop n t
theorem RpAll.ints : ∀ (ns : List Int), RpAll K F (ns.map V.int) (ns.map D.int)
  | [] => .nil
  | n :: ns => .cons (.int n) (RpAll.ints ns)
end

/-- the frozen part F of H -/
structure Fz (F H : Hp) : Prop where
  sub : Sub F H
  nt : ∀ a ps, F a ≠ some (.tbl ps)
/-- a table, or a tuple (which no one changes) -/
def Sd (o : HO) : Prop := (∃ ps, o = .tbl ps) ∨ ∃ xs, o = .tup xs
/-- from (F, H) to (F', H') -/
structure Nx (T : List (Addr × Str)) (F H F' H' : Hp) : Prop where
  f : Sub F F'
  z : Fz F' H'
  h : ExtN H H'
  new : ∀ a o, F' a = some o → F a = some o ∨ ∀ o', H a = some o' → Sd o'
  tab : Tabs T H → Tabs T H'
section
variable {T : List (Addr × Str)} {F H F1 H1 F2 H2 : Hp}
theorem Nx.refl (z : Fz F H) : Nx T F H F H := ⟨Sub.refl F, z, ExtN.refl H, fun _ _ h => .inl h, fun h => h⟩
theorem Nx.trans (a : Nx T F H F1 H1) (b : Nx T F1 H1 F2 H2) : Nx T F H F2 H2 where
  f := a.f.trans b.f
  z := b.z
  h := a.h.trans b.h
  new := fun x o e => by
    rcases b.new x o e with h | h
    · exact a.new x o h
    · refine .inr fun o' e' => ?_
      by_cases q : ∃ ps, o' = .tbl ps
      · exact .inl q
      · exact h o' (a.h x o' e' fun ps z => q ⟨ps, z⟩)
  tab := fun h => b.tab (a.tab h)
/-- a new object that is frozen from its begin -/
theorem Nx.push {p : Addr} {o : HO} (z : Fz F H) (hp : H p = none) (ho : ∀ ps, o ≠ .tbl ps) : Nx T F H (upd F p o) (upd H p o) := by
  have fp : F p = none := by
    cases q : F p with
    | none => rfl
    | some u =>
      have := z.sub _ _ q
      rw [hp] at this; cases this
  refine ⟨fun a u e => ?_, ⟨fun a u e => ?_, fun a ps e => ?_⟩, fun b u e _ => ?_, fun a u e => ?_, fun t => t.ext fun b u e => ?_⟩
  · rw [upd_ne (ne_of_none e fp)]; exact e
  · by_cases h : a = p
    · subst h; rw [upd_same] at e ⊢; exact e
    · rw [upd_ne h] at e ⊢; exact z.sub _ _ e
  · by_cases h : a = p
    · subst h; rw [upd_same] at e; exact ho ps (Option.some.inj e)
    · rw [upd_ne h] at e; exact z.nt _ _ e
  · rw [upd_ne (ne_of_none e hp)]; exact e
  · by_cases h : a = p
    · subst h; exact .inr fun o' e' => by rw [hp] at e'; cases e'
    · rw [upd_ne h] at e; exact .inl e
  · rw [upd_ne (ne_of_none e hp)]; exact e
/-- a new object that is not frozen -/
theorem Nx.lay {p : Addr} {o : HO} (z : Fz F H) (hp : H p = none) : Nx T F H F (upd H p o) := by
  refine ⟨Sub.refl F, ⟨fun a u e => ?_, z.nt⟩, fun b u e _ => ?_, fun a u e => .inl e, fun t => t.ext fun b u e => ?_⟩
  · rw [upd_ne (ne_of_none (z.sub _ _ e) hp)]; exact z.sub _ _ e
  · rw [upd_ne (ne_of_none e hp)]; exact e
  · rw [upd_ne (ne_of_none e hp)]; exact e
theorem Nx.keep (n : Nx T F H F1 H1) {a : Addr} {o : HO} (e : H a = some o) (ho : ∀ ps, o ≠ .tbl ps) : H1 a = some o := n.h a o e ho
theorem Nx.out (n : Nx T F H F1 H1) {a : Addr} {o : HO} (e : H a = some o) (ho : ∀ ps, o ≠ .tbl ps) (hf : F a = none) (hx : ∀ xs, o ≠ .tup xs := by intro _ z; cases z) : F1 a = none := by
  cases q : F1 a with
  | none => rfl
  | some u =>
    rcases n.new a u q with h | h
    · rw [hf] at h; cases h
    · rcases h o e with ⟨ps, z⟩ | ⟨xs, z⟩
      · exact absurd z (ho ps)
      · exact absurd z (hx xs)
end

/-- a slot: nothing is known; frozen data; an object of the frame's own -/
inductive En where
  | u | z (d : D) | o (d : D)
abbrev Rho := List En
/-! dicts of nested keys -/
mutual
def D.key : D → Option NestedKey
  | .non => some .none
  | .bl b => some (.num (if b = true then 1 else 0))
  | .int i => some (.num i)
  | .str x => some (.text x)
  | .tup ds => (D.keys ds).map .tup
  | _ => none
def D.keys : List D → Option (List NestedKey)
  | [] => some []
  | d :: ds => (D.key d).bind fun k => (D.keys ds).map fun ks => k :: ks
end
def EntR (p : NestedKey × Addr × V) (q : NestedKey × Addr × Value) : Prop := p.1 = q.1 ∧ p.2.1 = q.2.1 ∧ RelV p.2.2 q.2.2
/-- the dict at a: its keys (the tuples' addresses) and values -/
def DicO (P : Program) (w : World) (a : Addr) (es : List (NestedKey × Addr × V)) : HO := .ext fun h => (a == sysModules) = false ∧ es.length ≤ sizeLine ∧ ∃ xs : List (NestedKey × Addr × Value), Paired EntR es xs ∧
  ∃ o ents ep, h.get? a = some o ∧ o.ExactDict ∧ o.data = .dict ents ep ∧ ents.toList = xs.map (entryOfKey (nestedKind P w)) ∧ (xs.map (·.1)).Nodup
inductive DicR (K : PySem.W.Frag) (F : Hp) : List (NestedKey × Addr × V) → List D → List D → Prop
  | nil : DicR K F [] [] []
  | cons {n : NestedKey} {a : Addr} {v : V} {es : List (NestedKey × Addr × V)} {k d : D} {ks vs : List D} : k.key = some n → n.depth ≤ 8 → Rp K F (.ref a) k → Rp K F v d → DicR K F es ks vs → DicR K F ((n, a, v) :: es) (k :: ks) (d :: vs)
theorem DicR.mono {K : PySem.W.Frag} {F F' : Hp} (e : Sub F F') {es : List (NestedKey × Addr × V)} {ks vs : List D} (h : DicR K F es ks vs) : DicR K F' es ks vs := by
  induction h with
  | nil => exact .nil
  | cons h1 h2 h3 h4 _ ih => exact .cons h1 h2 (h3.mono e) (h4.mono e) ih
/-- the object at p, not frozen, is d -/
def OwnAt (K : PySem.W.Frag) (F H : Hp) (p : Addr) : D → Prop
  | .lst ds => ∃ xs, H p = some (.lst xs) ∧ RpAll K F xs ds
  | .dK kvs => H p = some (.dK kvs)
  | .dT kvs => H p = some (.dT kvs)
  | .dic P w ks vs => ∃ es, H p = some (DicO P w p es) ∧ DicR K F es ks vs
  | .ins c ns vs => ∃ dx ws, H p = some (.ins (He.ga K c) dx (ns.zip ws)) ∧ RpAll K F ws vs
  | _ => False
theorem OwnAt.solid {K : PySem.W.Frag} {F H : Hp} {p : Addr} : ∀ {d : D}, OwnAt K F H p d → ∃ o, H p = some o ∧ ∀ ps, o ≠ .tbl ps
  | .lst ds, ⟨xs, h, _⟩ => ⟨_, h, fun ps z => by cases z⟩
  | .dK kvs, h => ⟨_, h, fun ps z => by cases z⟩
  | .dT kvs, h => ⟨_, h, fun ps z => by cases z⟩
  | .dic P w ks vs, ⟨es, h, _⟩ => ⟨_, h, fun ps z => by unfold DicO at z; cases z⟩
  | .ins c ns vs, ⟨dx, ws, h, _⟩ => ⟨_, h, fun ps z => by cases z⟩
  | .non, h => h.elim
  | .bl _, h => h.elim
  | .int _, h => h.elim
  | .str _, h => h.elim
  | .tup _, h => h.elim
  | .fn _, h => h.elim
  | .ty _, h => h.elim
  | .arr _, h => h.elim
  | .pro _, h => h.elim
  | .adr _, h => h.elim
  | .tab _ _ _, h => h.elim
theorem OwnAt.notTup {K : PySem.W.Frag} {F H : Hp} {p : Addr} {d : D} {xs : List V} (h : OwnAt K F H p d) (e : H p = some (.tup xs)) : False := by
  cases d with
  | lst ds => obtain ⟨ys, q, _⟩ := h; rw [e] at q; cases q
  | dK kvs => have q : H p = some (.dK kvs) := h; rw [e] at q; cases q
  | dT kvs => have q : H p = some (.dT kvs) := h; rw [e] at q; cases q
  | dic P w ks vs => obtain ⟨es, q, _⟩ := h; rw [e] at q; unfold DicO at q; cases q
  | ins c ns vs => obtain ⟨dx, ws, q, _⟩ := h; rw [e] at q; cases q
  | _ => exact h
theorem OwnAt.mono {K : PySem.W.Frag} {T : List (Addr × Str)} {F H F' H' : Hp} {p : Addr} (n : Nx T F H F' H') : ∀ {d : D}, OwnAt K F H p d → OwnAt K F' H' p d
  | .lst ds, ⟨xs, h, r⟩ => ⟨xs, n.keep h fun ps z => (by cases z), RpAll.mono n.f r⟩
  | .dK kvs, h => n.keep h fun ps z => (by cases z)
  | .dT kvs, h => n.keep h fun ps z => (by cases z)
  | .dic P w ks vs, ⟨es, h, r⟩ => ⟨es, n.keep h fun ps z => (by unfold DicO at z; cases z), r.mono n.f⟩
  | .ins c ns vs, ⟨dx, ws, h, r⟩ => ⟨dx, ws, n.keep h fun ps z => (by cases z), r.mono n.f⟩
  | .non, h => h.elim
  | .bl _, h => h.elim
  | .int _, h => h.elim
  | .str _, h => h.elim
  | .tup _, h => h.elim
  | .fn _, h => h.elim
  | .ty _, h => h.elim
  | .arr _, h => h.elim
  | .pro _, h => h.elim
  | .adr _, h => h.elim
  | .tab _ _ _, h => h.elim
structure Rl (K : PySem.W.Frag) (F H : Hp) (σ : L2.St) (ρ : Rho) : Prop where
  len : σ.length = ρ.length
  z : ∀ (i : Nat) (d : D), ρ[i]? = some (En.z d) → ∃ v, σ[i]? = some (some v) ∧ Rp K F v d
  o : ∀ (i : Nat) (d : D), ρ[i]? = some (En.o d) → ∃ p, σ[i]? = some (some (V.ref p)) ∧ F p = none ∧ OwnAt K F H p d
  ne : ∀ (i j : Nat) (d e : D) (p q : Addr), i ≠ j → ρ[i]? = some (En.o d) → ρ[j]? = some (En.o e) → σ[i]? = some (some (V.ref p)) → σ[j]? = some (some (V.ref q)) → p ≠ q
section
variable {K : PySem.W.Frag} {T : List (Addr × Str)} {F H F' H' : Hp} {σ : L2.St} {ρ : Rho}
theorem Rl.mono (n : Nx T F H F' H') (r : Rl K F H σ ρ) : Rl K F' H' σ ρ where
  len := r.len
  z := fun i d e => let ⟨v, h1, h2⟩ := r.z i d e; ⟨v, h1, h2.mono n.f⟩
  o := fun i d e => by
    obtain ⟨p, h1, h2, h3⟩ := r.o i d e
    obtain ⟨o, h4, h5⟩ := h3.solid
    exact ⟨p, h1, n.out h4 h5 h2 (fun xs z => h3.notTup (by rw [h4, z])), h3.mono n⟩
  ne := r.ne
theorem Rl.set {i : Nat} {v : V} {d : D} (r : Rl K F H σ ρ) (h : Rp K F v d) : Rl K F H (σ.set i (some v)) (ρ.set i (.z d)) where
  len := by rw [List.length_set, List.length_set]; exact r.len
  z := fun j e hj => by
    rw [List.getElem?_set] at hj ⊢
    by_cases hij : i = j
    · subst hij
      rw [if_pos rfl] at hj ⊢
      by_cases hl : i < ρ.length
      · rw [if_pos hl] at hj
        rw [if_pos (by rw [r.len]; exact hl)]
        cases hj
        exact ⟨v, rfl, h⟩
      · rw [if_neg hl] at hj; cases hj
    · rw [if_neg hij] at hj ⊢
      exact r.z j e hj
  o := fun j e hj => by
    rw [List.getElem?_set] at hj ⊢
    by_cases hij : i = j
    · subst hij
      rw [if_pos rfl] at hj
      by_cases hl : i < ρ.length
      · rw [if_pos hl] at hj; cases hj
      · rw [if_neg hl] at hj; cases hj
    · rw [if_neg hij] at hj ⊢
      exact r.o j e hj
  ne := fun j k a b p q hn h1 h2 h3 h4 => by
    rw [List.getElem?_set] at h1 h2 h3 h4
    have fj : i ≠ j := fun z => by
      rw [if_pos z] at h1; split at h1 <;> cases h1
    have fk : i ≠ k := fun z => by
      rw [if_pos z] at h2; split at h2 <;> cases h2
    rw [if_neg fj] at h1 h3
    rw [if_neg fk] at h2 h4
    exact r.ne j k a b p q hn h1 h2 h3 h4
theorem Rl.wipe1 {i : Nat} (r : Rl K F H σ ρ) : Rl K F H (σ.set i none) (ρ.set i .u) where
  len := by rw [List.length_set, List.length_set]; exact r.len
  z := fun j e hj => by
    rw [List.getElem?_set] at hj ⊢
    by_cases hij : i = j
    · subst hij
      rw [if_pos rfl] at hj
      split at hj <;> cases hj
    · rw [if_neg hij] at hj ⊢
      exact r.z j e hj
  o := fun j e hj => by
    rw [List.getElem?_set] at hj ⊢
    by_cases hij : i = j
    · subst hij
      rw [if_pos rfl] at hj
      split at hj <;> cases hj
    · rw [if_neg hij] at hj ⊢
      exact r.o j e hj
  ne := fun j k a b p q hn h1 h2 h3 h4 => by
    rw [List.getElem?_set] at h1 h2 h3 h4
    have fj : i ≠ j := fun z => by
      rw [if_pos z] at h1; split at h1 <;> cases h1
    have fk : i ≠ k := fun z => by
      rw [if_pos z] at h2; split at h2 <;> cases h2
    rw [if_neg fj] at h1 h3
    rw [if_neg fk] at h2 h4
    exact r.ne j k a b p q hn h1 h2 h3 h4
end

/-! ### readings by functions of data -/
/-- what is wanted behind: of an α that stands for the β -/
def aft {α β : Type} (R : Hp → α → β → Prop) (K : PySem.W.Frag) (T : List (Addr × Str)) (W : WX) (σ : L2.St) (F H : Hp) (Q : α → Hp → Prop) : Res β → Prop
  | .ok b => ∀ a F' H', Nx T F H F' H' → R F' a b → Q a H'
  | .ex n => ∀ F' H', Nx T F H F' H' → W (.ref (He.ga K n)) none σ H'
  | .bad => False
abbrev RBool : Hp → Bool → Bool → Prop := fun _ a b => a = b
/-- where one stands -/
structure At (K : PySem.W.Frag) (T : List (Addr × Str)) (F H : Hp) (σ : L2.St) (ρ : Rho) : Prop where
  z : Fz F H
  t : Tabs T H
  r : Rl K F H σ ρ
theorem At.nx {K : PySem.W.Frag} {T : List (Addr × Str)} {F H F' H' : Hp} {σ : L2.St} {ρ : Rho} (a : At K T F H σ ρ) (n : Nx T F H F' H') : At K T F' H' σ ρ := ⟨n.z, n.tab a.t, a.r.mono n⟩
def tG {α β : Type} (R : PySem.W.Frag → Hp → α → β → Prop) (K : PySem.W.Frag) (T : List (Addr × Str)) (W : WX) (f : Rho → Res β) : L2.St → Hp → (α → Hp → Prop) → Prop :=
  fun σ H Q => ∃ ρ F, At K T F H σ ρ ∧ aft (R K) K T W σ F H Q (f ρ)
def tE (K : PySem.W.Frag) (T : List (Addr × Str)) (W : WX) (f : Rho → Res D) : TE := tG Rp K T W f
def tA (K : PySem.W.Frag) (T : List (Addr × Str)) (W : WX) (f : Rho → Res (List D)) : TA := tG RpAll K T W f
def tT (K : PySem.W.Frag) (T : List (Addr × Str)) (W : WX) (f : Rho → Res Bool) : TT := tG (fun _ => RBool) K T W f
section
variable {K : PySem.W.Frag} {T : List (Addr × Str)} {W : WX} {σ : L2.St} {F H F' H' : Hp}
theorem aft.mono {α β : Type} {R : Hp → α → β → Prop} {Q : α → Hp → Prop} {r : Res β} (n : Nx T F H F' H') (h : aft R K T W σ F H Q r) : aft R K T W σ F' H' Q r := by
  cases r with
  | ok b => exact fun a F2 H2 n2 ra => h a F2 H2 (n.trans n2) ra
  | ex m => exact fun F2 H2 n2 => h F2 H2 (n.trans n2)
  | bad => exact h
theorem aft.imp {α β : Type} {R : Hp → α → β → Prop} {Q Q' : α → Hp → Prop} {r : Res β} (h : aft R K T W σ F H Q r) (hq : ∀ b, r = .ok b → ∀ a F' H', Nx T F H F' H' → R F' a b → Q a H' → Q' a H') : aft R K T W σ F H Q' r := by
  cases r with
  | ok b => exact fun a F2 H2 n ra => hq b rfl a F2 H2 n ra (h a F2 H2 n ra)
  | ex m => exact h
  | bad => exact h
/-- one thing behind another -/
theorem aft.bind {α β γ δ : Type} {R : Hp → α → β → Prop} {S : Hp → γ → δ → Prop} {Q : γ → Hp → Prop} {r : Res β} {k : β → Res δ} (h : aft S K T W σ F H Q (r.bind k)) :
    aft R K T W σ F H (fun a H1 => ∃ b F1, r = .ok b ∧ Nx T F H F1 H1 ∧ R F1 a b ∧ aft S K T W σ F1 H1 Q (k b)) r := by
  cases r with
  | ok b => exact fun a F2 H2 n ra => ⟨b, F2, rfl, n, ra, aft.mono n h⟩
  | ex m => exact h
  | bad => exact h
theorem aft.ok {α β : Type} {R : Hp → α → β → Prop} {Q : α → Hp → Prop} {b : β} {a : α} {F1 H1 : Hp} (h : aft R K T W σ F H Q (.ok b)) (n : Nx T F H F1 H1) (ra : R F1 a b) : Q a H1 := h a F1 H1 n ra
end
/-- a judgement is weakened -/
theorem _root_.L2.PE.to {X : Cx} {e : Expr} {t u : TE} (h : PE X e t) (k : ∀ σ H Q, u σ H Q → t σ H Q) : PE X e u := ⟨fun pins s σ H Q I q => h.run pins s σ H Q I (k σ H Q q)⟩
theorem _root_.L2.PT.to {X : Cx} {e : Expr} {t u : TT} (h : PT X e t) (k : ∀ σ H Q, u σ H Q → t σ H Q) : PT X e u := ⟨fun pins s σ H Q I q => h.run pins s σ H Q I (k σ H Q q)⟩
theorem _root_.L2.PW.to {X : Cx} {e : Expr} {t u : TT} (h : PW X e t) (k : ∀ σ H Q, u σ H Q → t σ H Q) : PW X e u := ⟨fun whole pins s σ H Q I q => h.run whole pins s σ H Q I (k σ H Q q)⟩
theorem _root_.L2.PA.to {X : Cx} {es : List Expr} {t u : TA} (h : PA X es t) (k : ∀ σ H Q, u σ H Q → t σ H Q) : PA X es u := ⟨fun pos pins s σ H Q I q => h.run pos pins s σ H Q I (k σ H Q q)⟩
theorem _root_.L2.PS.to {X : Cx} {st : Stmt} {t u : TS} (h : PS X st t) (k : ∀ D σ H, u D σ H → t D σ H) : PS X st u := ⟨fun pins s σ H D I q => h.run pins s σ H D I (k D σ H q)⟩
theorem _root_.L2.PSs.to {X : Cx} {st : List Stmt} {t u : TS} (h : PSs X st t) (k : ∀ D σ H, u D σ H → t D σ H) : PSs X st u := ⟨fun pins s σ H D I q => h.run pins s σ H D I (k D σ H q)⟩

/-! ### names, constants, arguments -/
section
variable {X : Cx} {T : List (Addr × Str)} {W : WX}
abbrev DE (X : Cx) (T : List (Addr × Str)) (W : WX) (e : Expr) (f : Rho → Res D) : Prop := PE X e (tE X.K T W f)
abbrev DQ (X : Cx) (T : List (Addr × Str)) (W : WX) (e : Expr) (f : Rho → Res Bool) : Prop := PT X e (tT X.K T W f)
abbrev DW (X : Cx) (T : List (Addr × Str)) (W : WX) (e : Expr) (f : Rho → Res Bool) : Prop := PW X e (tT X.K T W f)
abbrev DA (X : Cx) (T : List (Addr × Str)) (W : WX) (es : List Expr) (f : Rho → Res (List D)) : Prop := PA X es (tA X.K T W f)

def var (i : Nat) : Rho → Res D := fun ρ => match ρ[i]? with
  | some (.z d) => .ok d
  | _ => .bad
theorem e_var {i : Nat} {x : Str} {pos : Pos} (h : PE X (.Name x pos) (tVar i)) : DE X T W (.Name x pos) (var i) := h.to fun σ H Q hq => by
  obtain ⟨ρ, F, a, h⟩ := hq
  unfold var at h
  cases e : ρ[i]? with
  | none => rw [e] at h; exact h.elim
  | some en =>
    rw [e] at h
    cases en with
    | u => exact h.elim
    | o d => exact h.elim
    | z d =>
      obtain ⟨v, h1, h2⟩ := a.r.z i d e
      exact ⟨v, h1, h v F H (Nx.refl a.z) h2⟩
def con (d : D) : Rho → Res D := fun _ => .ok d
theorem e_c {e : Expr} {v : V} {d : D} (h : PE X e (tC v)) (r : ∀ F, Rp X.K F v d) : DE X T W e (con d) := h.to fun σ H Q ⟨ρ, F, a, h⟩ => h v F H (Nx.refl a.z) (r F)
theorem e_int {i j pos} : DE X T W (.Constant (.int i) j pos) (con (.int i)) := e_c pe_int fun _ => .int i
theorem e_bl {b j pos} : DE X T W (.Constant (.bool b) j pos) (con (.bl b)) := e_c pe_bl fun _ => .bl b
theorem e_non {j pos} : DE X T W (.Constant .none j pos) (con .non) := e_c pe_non fun _ => .non
theorem e_str {x j pos} : DE X T W (.Constant (.str x) j pos) (con (.str x)) := e_c pe_str fun _ => .str x

def anil : Rho → Res (List D) := fun _ => .ok []
def acons (f : Rho → Res D) (g : Rho → Res (List D)) : Rho → Res (List D) := fun ρ => (f ρ).bind fun d => (g ρ).bind fun ds => .ok (d :: ds)
theorem a_nil : DA X T W [] anil := pa_nil.to fun σ H Q ⟨ρ, F, a, h⟩ => h [] F H (Nx.refl a.z) .nil
theorem a_cons {e : Expr} {es : List Expr} {f : Rho → Res D} {g : Rho → Res (List D)} (he : DE X T W e f) (hs : DA X T W es g) (hstar : starEach (e :: es) X.env = (false, eval e X.env) :: starEach es X.env := by rfl) : DA X T W (e :: es) (acons f g) :=
  (pa_cons he hs hstar).to fun σ H Q ⟨ρ, F, a, h⟩ => by
    refine ⟨ρ, F, a, (aft.bind (R := Rp X.K) h).imp fun d _ v F1 H1 _ _ q => ?_⟩
    obtain ⟨b, F2, _, n, rv, q⟩ := q
    refine ⟨ρ, F2, a.nx n, (aft.bind (R := RpAll X.K) q).imp fun ds _ vs F3 H3 _ _ q => ?_⟩
    obtain ⟨ds', F4, _, n2, rs, q⟩ := q
    exact q.ok (Nx.refl n2.z) (.cons (rv.mono n2.f) rs)
end
end DN
namespace DN
open PySem PySem.Spec PyProof.Rows L2
open LamX (Tabs ExtN)
open PySem.Builtin.Str (tooLong)

/-! ### operators -/
/-- an operation on values, by a function of data -/
def rD2 (K : PySem.W.Frag) (T : List (Addr × Str)) (G : D → D → Option D) : R2 := fun x y H Q =>
  ∃ F d e z, Fz F H ∧ Rp K F x d ∧ Rp K F y e ∧ G d e = some z ∧ ∀ v F' H', Nx T F H F' H' → Rp K F' v z → Q v H'
def rD1 (K : PySem.W.Frag) (T : List (Addr × Str)) (G : D → Option D) : V → Hp → VK → Prop := fun x H Q =>
  ∃ F d z, Fz F H ∧ Rp K F x d ∧ G d = some z ∧ ∀ v F' H', Nx T F H F' H' → Rp K F' v z → Q v H'
def rDn (K : PySem.W.Frag) (T : List (Addr × Str)) (G : List D → Option D) : List V → Hp → VK → Prop := fun xs H Q =>
  ∃ F ds z, Fz F H ∧ RpAll K F xs ds ∧ G ds = some z ∧ ∀ v F' H', Nx T F H F' H' → Rp K F' v z → Q v H'
def bop (G : D → D → Option D) (f g : Rho → Res D) : Rho → Res D := fun ρ => (f ρ).bind fun d => (g ρ).bind fun e => ofO (G d e)
def una (G : D → Option D) (f : Rho → Res D) : Rho → Res D := fun ρ => (f ρ).bind fun d => ofO (G d)
def cal (G : List D → Option D) (f : Rho → Res (List D)) : Rho → Res D := fun ρ => (f ρ).bind fun ds => ofO (G ds)
section
variable {X : Cx} {T : List (Addr × Str)} {W : WX}
theorem ofO_ok {α : Type} {o : Option α} {K : PySem.W.Frag} {σ : L2.St} {F H : Hp} {β : Type} {R : Hp → β → α → Prop} {Q : β → Hp → Prop} (h : aft R K T W σ F H Q (ofO o)) : ∃ a, o = some a ∧ ∀ b F' H', Nx T F H F' H' → R F' b a → Q b H' := by
  cases o with
  | none => exact h.elim
  | some a => exact ⟨a, rfl, h⟩
theorem bin_to {K : PySem.W.Frag} {G : D → D → Option D} {f g : Rho → Res D} {σ : L2.St} {H : Hp} {Q : VK} (h : tE K T W (bop G f g) σ H Q) : tOp (rD2 K T G) (tE K T W f) (tE K T W g) σ H Q := by
  obtain ⟨ρ, F, a, h⟩ := h
  refine ⟨ρ, F, a, (aft.bind (R := Rp K) h).imp fun d _ v F1 H1 _ _ q => ?_⟩
  obtain ⟨b, F2, _, n, rv, q⟩ := q
  refine ⟨ρ, F2, a.nx n, (aft.bind (R := Rp K) q).imp fun ds _ vs F3 H3 _ _ q => ?_⟩
  obtain ⟨e, F4, _, n2, rs, q⟩ := q
  obtain ⟨z, hz, q⟩ := ofO_ok q
  exact ⟨F4, b, e, z, n2.z, rv.mono n2.f, rs, hz, q⟩
theorem e_bin {op : Operator} {G : D → D → Option D} {a b : Expr} {f g : Rho → Res D} {pos : Pos} (ho : OpR X (binaryOp op) (rD2 X.K T G)) (ha : DE X T W a f) (hb : DE X T W b g) : DE X T W (.BinOp a op b pos) (bop G f g) :=
  (pe_op ho ha hb).to fun _ _ _ h => bin_to h
theorem e_una {op : UnaryOp} {G : D → Option D} {a : Expr} {f : Rho → Res D} {pos : Pos} (ho : UnR X (unaryOp op) (rD1 X.K T G)) (ha : DE X T W a f) : DE X T W (.UnaryOp op a pos) (una G f) :=
  (pe_un ho ha).to fun σ H Q ⟨ρ, F, a, h⟩ => by
    refine ⟨ρ, F, a, (aft.bind (R := Rp X.K) h).imp fun d _ v F1 H1 _ _ q => ?_⟩
    obtain ⟨b, F2, _, n, rv, q⟩ := q
    obtain ⟨z, hz, q⟩ := ofO_ok q
    exact ⟨F2, b, z, n.z, rv, hz, q⟩
theorem e_cmp {op : CmpOp} {G : D → D → Option D} {a b : Expr} {f g : Rho → Res D} {pos : Pos} (ho : OpR X (compareOp op) (rD2 X.K T G)) (ha : DE X T W a f) (hb : DE X T W b g) (hm : behindInMarks op b = false) : DE X T W (.Compare a [op] [b] pos) (bop G f g) :=
  (pe_cmpR ho ha hb hm).to fun _ _ _ h => bin_to h
/-- a comparison's answer -/
def ans : D → Res Bool
  | .bl b => .ok b
  | _ => .bad
def tst (f : Rho → Res D) : Rho → Res Bool := fun ρ => (f ρ).bind ans
theorem tst_to {K : PySem.W.Frag} {f : Rho → Res D} {σ : L2.St} {H : Hp} {Q : Bool → Hp → Prop} (h : tT K T W (tst f) σ H Q) : tE K T W f σ H fun x H' => ∃ k, x = .bl k ∧ Q k H' := by
  obtain ⟨ρ, F, a, h⟩ := h
  refine ⟨ρ, F, a, (aft.bind (R := Rp K) h).imp fun d _ v F1 H1 _ _ q => ?_⟩
  obtain ⟨b, F2, _, n, rv, q⟩ := q
  cases b with
  | bl k =>
    cases rv
    exact ⟨k, rfl, q k F2 H1 (Nx.refl n.z) rfl⟩
  | _ => exact q.elim
theorem q_cmp {op : CmpOp} {G : D → D → Option D} {a b : Expr} {f g : Rho → Res D} {pos : Pos} (ho : OpR X (compareOp op) (rD2 X.K T G)) (ha : DE X T W a f) (hb : DE X T W b g) (hm : behindInMarks op b = false) : DQ X T W (.Compare a [op] [b] pos) (tst (bop G f g)) :=
  (pt_cmpR ho ha hb hm).to fun σ H Q h => by
    have h2 := tst_to h
    exact bin_to h2
end

/-! the operators' functions -/
def CMulD (i j : Int) : Prop := CMul i j ∨ CMulW i j
instance : Decidable (CMulD i j) := by unfold CMulD CMul CMulW; infer_instance
instance : Decidable (CDivW i j) := by unfold CDivW; infer_instance
def repS (x : Str) (n : Int) : Str := ⟨((List.replicate n.toNat x.cps.toList).flatten).toArray⟩
def addD : D → D → Option D
  | .int i, .int j => some (.int (i + j))
  | .str x, .str y => if x.length + y.length ≤ sizeLine then some (.str (x ++ y)) else none
  | .tup xs, .tup ys => if xs.length + ys.length ≤ sizeLine then some (.tup (xs ++ ys)) else none
  | .lst xs, .lst ys => if xs.length + ys.length ≤ sizeLine then some (.lst (xs ++ ys)) else none
  | _, _ => none
def subD : D → D → Option D
  | .int i, .int j => some (.int (i - j))
  | _, _ => none
def mulD : D → D → Option D
  | .int i, .int j => if CMulD i j then some (.int (i * j)) else none
  | .str x, .int n => if n ≤ 1000000 ∧ -1000000 ≤ n ∧ x.length * n.toNat ≤ 1000000 then some (.str (repS x n)) else none
  | .tup xs, .int k => if 2 ≤ k ∧ k ≤ 1000 ∧ xs.isEmpty = false ∧ xs.length ≤ 1000 then some (.tup (List.replicate k.toNat xs).flatten) else none
  | _, _ => none
def divD : D → D → Option D
  | .int i, .int j => if CDivW i j then some (.int (i / j)) else none
  | _, _ => none
def modD : D → D → Option D
  | .int i, .int j => if 0 < j then some (.int (i % j)) else none
  | _, _ => none
def negD : D → Option D
  | .int i => some (.int (-i))
  | _ => none
def ltD : D → D → Option D
  | .int i, .int j => some (.bl (decide (i < j)))
  | _, _ => none
def leD : D → D → Option D
  | .int i, .int j => some (.bl (decide (i ≤ j)))
  | _, _ => none
def gtD : D → D → Option D
  | .int i, .int j => some (.bl (decide (j < i)))
  | _, _ => none
def geD : D → D → Option D
  | .int i, .int j => some (.bl (decide (j ≤ i)))
  | _, _ => none
section
variable {X : Cx} {T : List (Addr × Str)} {W : WX}
theorem done0 {K : PySem.W.Frag} {F H : Hp} {z : D} {v : V} {Q : VK} (hz : Fz F H) (q : ∀ v F' H', Nx T F H F' H' → Rp K F' v z → Q v H') (r : Rp K F v z) : Q v H := q v F H (Nx.refl hz) r
theorem donep {K : PySem.W.Frag} {F H : Hp} {z : D} {p : Addr} {o : HO} {Q : VK} (hz : Fz F H) (hp : H p = none) (ho : ∀ ps, o ≠ .tbl ps) (q : ∀ v F' H', Nx T F H F' H' → Rp K F' v z → Q v H') (r : Rp K (upd F p o) (.ref p) z) : Q (.ref p) (upd H p o) :=
  q _ _ _ (Nx.push hz hp ho) r
theorem rp_tup {K : PySem.W.Frag} {F H : Hp} {p : Addr} {xs : List V} {ds : List D} (hz : Fz F H) (hp : H p = none) (r : RpAll K F xs ds) : Rp K (upd F p (.tup xs)) (.ref p) (.tup ds) :=
  .tup (.inl (.inl upd_same)) (r.mono (Nx.push (T := []) (o := .tup xs) hz hp (fun ps z => by cases z)).f)
theorem rp_lst {K : PySem.W.Frag} {F H : Hp} {p : Addr} {xs : List V} {ds : List D} (hz : Fz F H) (hp : H p = none) (r : RpAll K F xs ds) : Rp K (upd F p (.lst xs)) (.ref p) (.lst ds) :=
  .lst upd_same (r.mono (Nx.push (T := []) (o := .lst xs) hz hp (fun ps z => by cases z)).f)
theorem ntT {xs : List V} : ∀ ps, HO.tup xs ≠ .tbl ps := fun _ z => by cases z
theorem ntL {xs : List V} : ∀ ps, HO.lst xs ≠ .tbl ps := fun _ z => by cases z
theorem RpAll.nil_iff {K : PySem.W.Frag} {F : Hp} {xs : List V} {ds : List D} (r : RpAll K F xs ds) : xs = [] ↔ ds = [] := by
  cases r with
  | nil => simp
  | cons _ _ => simp
theorem o_add : OpR X (binaryOp .Add) (rD2 X.K T addD) := by
  intro pins s σ H x y v u Q I rx ry h
  obtain ⟨F, d, e, z, hz, rd, re, hG, q⟩ := h
  cases rd with
  | int i =>
    cases re with
    | int j => cases hG; exact op_add pins s σ H _ _ v u Q I rx ry ⟨i, j, rfl, rfl, done0 hz q (.int _)⟩
    | _ => cases hG
  | str i =>
    cases re with
    | str j =>
      have hG : (if i.length + j.length ≤ sizeLine then some (D.str (i ++ j)) else none) = some z := hG
      split at hG
      · rename_i hl
        cases hG
        exact op_add_str pins s σ H _ _ v u Q I rx ry ⟨i, j, rfl, rfl, hl, done0 hz q (.str _)⟩
      · cases hG
    | _ => cases hG
  | tup h1 r1 =>
    cases re with
    | tup h2 r2 =>
      rename_i a xs ds b ys es
      have hG : (if ds.length + es.length ≤ sizeLine then some (D.tup (ds ++ es)) else none) = some z := hG
      split at hG
      · rename_i hl
        cases hG
        refine op_catA pins s σ H _ _ v u Q I rx ry ⟨a, b, xs, ys, rfl, rfl, hz.sub.st h1, hz.sub.st h2, by rw [r1.length, r2.length]; exact hl, fun e => ?_, fun e1 e2 => ?_, fun e1 e2 p hp => ?_⟩
        · have e' := r1.nil_iff.mp e
          subst e'
          exact done0 hz q (.tup h2 r2)
        · have e' := r2.nil_iff.mp e2
          subst e'
          rw [List.append_nil] at q
          exact done0 hz q (.tup h1 r1)
        · exact donep hz hp ntT q (rp_tup hz hp (r1.append r2))
      · cases hG
    | _ => cases hG
  | lst h1 r1 =>
    cases re with
    | lst h2 r2 =>
      rename_i a xs ds b ys es
      have hG : (if ds.length + es.length ≤ sizeLine then some (D.lst (ds ++ es)) else none) = some z := hG
      split at hG
      · rename_i hl
        cases hG
        exact op_cat pins s σ H _ _ v u Q I rx ry ⟨a, b, xs, ys, rfl, rfl, hz.sub _ _ h1, hz.sub _ _ h2, by rw [r1.length, r2.length]; exact hl, fun p hp => donep hz hp ntL q (rp_lst hz hp (r1.append r2))⟩
      · cases hG
    | _ => cases hG
  | _ => cases hG
theorem o_sub : OpR X (binaryOp .Sub) (rD2 X.K T subD) := by
  intro pins s σ H x y v u Q I rx ry h
  obtain ⟨F, d, e, z, hz, rd, re, hG, q⟩ := h
  cases rd with
  | int i =>
    cases re with
    | int j => cases hG; exact op_sub pins s σ H _ _ v u Q I rx ry ⟨i, j, rfl, rfl, done0 hz q (.int _)⟩
    | _ => cases hG
  | _ => cases hG
theorem foldA (x : Array Nat) : ∀ (n : Nat) (acc : Array Nat), (List.replicate n x).foldl (· ++ ·) acc = (acc.toList ++ (List.replicate n x.toList).flatten).toArray
  | 0, acc => by simp
  | n + 1, acc => by
    rw [List.replicate_succ, List.foldl_cons, foldA x n]
    simp [List.replicate_succ]
theorem fold_rep (x : Array Nat) (n : Nat) : (List.replicate n x).foldl (· ++ ·) #[] = ((List.replicate n x.toList).flatten).toArray := by
  rw [foldA]; simp
theorem sizeLine_val : (sizeLine : Nat) = 16777216 := sizeLine_eq
theorem o_mul_str {pins : List (Addr × Obj)} {s : Shared} {σ : L2.St} {H : Hp} {Q : VK} {x : Str} {n : Int} {t u : Tok} (I : Inv X pins σ H s) (h1 : n ≤ 1000000) (h2 : -1000000 ≤ n) (h3 : x.length * n.toNat ≤ 1000000) (q : Q (.str (repS x n)) H) :
    wpAny (model X.prog X.w) X.A (binaryOp .Mult (.str x t) (.int n u)) (EP X pins σ Q) X.xe s := by
  have tl : tooLong (x.length * n.toNat) = false := by
    unfold tooLong
    refine decide_eq_false ?_
    rw [sizeLine_val]
    omega
  refine PySem.P.mul_str (by rw [decide_eq_false (by omega), decide_eq_false (by omega)]; rfl) (fun g1 g2 => ?_) (fun _ _ => tl) ?_
  · intro hgt
    have hx : x.length ≤ 1000000 := by
      have hn : 1 ≤ n.toNat := by omega
      have := Nat.mul_le_mul_left x.length hn
      omega
    have hd : (2 ^ 63 - 1) / 1000000 ≤ (2 ^ 63 - 1 : Int) / n := by
      apply Int.le_ediv_of_mul_le (by omega)
      have : ((2 ^ 63 - 1 : Int) / 1000000) * n ≤ ((2 ^ 63 - 1 : Int) / 1000000) * 1000000 := Int.mul_le_mul_of_nonneg_left h1 (by decide)
      exact Int.le_trans this (by decide)
    have h0 : (1000000 : Int) ≤ (2 ^ 63 - 1) / 1000000 := by decide
    omega
  · by_cases g1 : n < 1
    · rw [if_pos g1]
      have e : repS x n = Str.empty := by
        unfold repS
        rw [show n.toNat = 0 by omega] <;> rfl
      rw [e] at q
      exact ⟨by decide, ⟨.str Str.empty, H, I.tok _, ⟨_, rfl⟩, q⟩⟩
    · rw [if_neg g1]
      by_cases g2 : (n == 1 || x.length == 0) = true
      · rw [if_pos g2]
        have e : repS x n = x := by
          unfold repS
          rw [Bool.or_eq_true, beq_iff_eq, beq_iff_eq] at g2
          rcases g2 with g | g
          · subst g
            show (⟨(([x.cps.toList] : List (List Nat)).flatten).toArray⟩ : Str) = x
            simp
          · have : x.cps = #[] := Array.eq_empty_of_size_eq_zero g
            cases x
            simp only at this
            subst this
            simp
        rw [e] at q
        exact ⟨.str x, H, I, ⟨_, rfl⟩, q⟩
      · rw [if_neg g2, fold_rep]
        refine ⟨?_, ⟨.str (repS x n), H, I.tok _, ⟨_, rfl⟩, q⟩⟩
        rw [sizeLine_val]
        show ((List.replicate n.toNat x.cps.toList).flatten).toArray.size ≤ _
        rw [List.size_toArray, List.length_flatten]
        simp
        have e : n.toNat * x.cps.size = x.length * n.toNat := Nat.mul_comm _ _
        rw [e]
        omega
theorem o_mul : OpR X (binaryOp .Mult) (rD2 X.K T mulD) := by
  intro pins s σ H x y v u Q I rx ry h
  obtain ⟨F, d, e, z, hz, rd, re, hG, q⟩ := h
  cases rd with
  | int i =>
    cases re with
    | int j =>
      have hG : (if CMulD i j then some (D.int (i * j)) else none) = some z := hG
      split at hG
      · rename_i hc
        cases hG
        rcases hc with hc | hc
        · exact op_mul pins s σ H _ _ v u Q I rx ry ⟨i, j, rfl, rfl, hc, done0 hz q (.int _)⟩
        · exact op_mulW pins s σ H _ _ v u Q I rx ry ⟨i, j, rfl, rfl, hc, done0 hz q (.int _)⟩
      · cases hG
    | _ => cases hG
  | str x =>
    cases re with
    | int n =>
      have hG : (if n ≤ 1000000 ∧ -1000000 ≤ n ∧ x.length * n.toNat ≤ 1000000 then some (D.str (repS x n)) else none) = some z := hG
      split at hG
      · rename_i hc
        cases hG
        obtain ⟨t, rfl⟩ := rx
        obtain ⟨t', rfl⟩ := ry
        exact o_mul_str I hc.1 hc.2.1 hc.2.2 (done0 hz q (.str _))
      · cases hG
    | _ => cases hG
  | tup h1 r1 =>
    cases re with
    | int k =>
      rename_i a xs ds
      have hG : (if 2 ≤ k ∧ k ≤ 1000 ∧ ds.isEmpty = false ∧ ds.length ≤ 1000 then some (D.tup (List.replicate k.toNat ds).flatten) else none) = some z := hG
      split at hG
      · rename_i hc
        cases hG
        obtain ⟨c1, c2, c3, c4⟩ := hc
        have many : ∀ n, RpAll X.K F (List.replicate n xs).flatten (List.replicate n ds).flatten := fun n => by
          induction n with
          | zero => exact .nil
          | succ n ih => simpa [List.replicate_succ] using r1.append ih
        have some_ : xs ≠ [] := fun z => by
          subst z
          cases r1
          cases c3
        exact op_repT pins s σ H _ _ v u Q I rx ry ⟨a, k, xs, rfl, rfl, hz.sub.st h1, some_, c1, c2, by rw [r1.length]; exact c4, fun p hp => donep hz hp ntT q (rp_tup hz hp (many _))⟩
      · cases hG
    | _ => cases hG
  | _ => cases hG
theorem o_div : OpR X (binaryOp .FloorDiv) (rD2 X.K T divD) := by
  intro pins s σ H x y v u Q I rx ry h
  obtain ⟨F, d, e, z, hz, rd, re, hG, q⟩ := h
  cases rd with
  | int i =>
    cases re with
    | int j =>
      have hG : (if CDivW i j then some (D.int (i / j)) else none) = some z := hG
      split at hG
      · rename_i hc
        cases hG
        exact op_fdivW pins s σ H _ _ v u Q I rx ry ⟨i, j, rfl, rfl, hc, done0 hz q (.int _)⟩
      · cases hG
    | _ => cases hG
  | _ => cases hG
theorem o_mod : OpR X (binaryOp .Mod) (rD2 X.K T modD) := by
  intro pins s σ H x y v u Q I rx ry h
  obtain ⟨F, d, e, z, hz, rd, re, hG, q⟩ := h
  cases rd with
  | int i =>
    cases re with
    | int j =>
      have hG : (if 0 < j then some (D.int (i % j)) else none) = some z := hG
      split at hG
      · rename_i hc
        cases hG
        exact op_mod pins s σ H _ _ v u Q I rx ry ⟨i, j, rfl, rfl, hc, done0 hz q (.int _)⟩
      · cases hG
    | _ => cases hG
  | _ => cases hG
theorem u_neg : UnR X (unaryOp .USub) (rD1 X.K T negD) := by
  intro pins s σ H x v Q I rx h
  obtain ⟨F, d, z, hz, rd, hG, q⟩ := h
  cases rd with
  | int i => cases hG; exact un_neg pins s σ H _ v Q I rx ⟨i, rfl, done0 hz q (.int _)⟩
  | _ => cases hG
theorem o_lt : OpR X (compareOp .Lt) (rD2 X.K T ltD) := by
  intro pins s σ H x y v u Q I rx ry h
  obtain ⟨F, d, e, z, hz, rd, re, hG, q⟩ := h
  cases rd with
  | int i =>
    cases re with
    | int j => cases hG; exact op_lt pins s σ H _ _ v u Q I rx ry ⟨i, j, rfl, rfl, done0 hz q (.bl _)⟩
    | _ => cases hG
  | _ => cases hG
theorem o_le : OpR X (compareOp .LtE) (rD2 X.K T leD) := by
  intro pins s σ H x y v u Q I rx ry h
  obtain ⟨F, d, e, z, hz, rd, re, hG, q⟩ := h
  cases rd with
  | int i =>
    cases re with
    | int j => cases hG; exact op_le pins s σ H _ _ v u Q I rx ry ⟨i, j, rfl, rfl, done0 hz q (.bl _)⟩
    | _ => cases hG
  | _ => cases hG
theorem o_gt : OpR X (compareOp .Gt) (rD2 X.K T gtD) := by
  intro pins s σ H x y v u Q I rx ry h
  obtain ⟨F, d, e, z, hz, rd, re, hG, q⟩ := h
  cases rd with
  | int i =>
    cases re with
    | int j => cases hG; exact op_gt pins s σ H _ _ v u Q I rx ry ⟨i, j, rfl, rfl, done0 hz q (.bl _)⟩
    | _ => cases hG
  | _ => cases hG
end
end DN
namespace DN
open PySem PySem.Spec PyProof.Rows L2
open LamX (Tabs ExtN)

/-! ### tests, and, or, not, chains -/
def andQ (f g : Rho → Res Bool) : Rho → Res Bool := fun ρ => (f ρ).bind fun b => if b = true then g ρ else .ok false
def orQ (f g : Rho → Res Bool) : Rho → Res Bool := fun ρ => (f ρ).bind fun b => if b = true then .ok true else g ρ
def notQ (f : Rho → Res Bool) : Rho → Res Bool := fun ρ => (f ρ).bind fun b => .ok (!b)
def andE (f g : Rho → Res D) : Rho → Res D := fun ρ => (f ρ).bind fun d => (ans d).bind fun b => if b = true then g ρ else .ok (.bl false)
def orE (f g : Rho → Res D) : Rho → Res D := fun ρ => (f ρ).bind fun d => (ans d).bind fun b => if b = true then .ok (.bl true) else g ρ
def notE (f : Rho → Res D) : Rho → Res D := fun ρ => (f ρ).bind fun d => (ans d).bind fun b => .ok (.bl (!b))
def chn (G G' : D → D → Option D) (f g h : Rho → Res D) : Rho → Res D := fun ρ => (f ρ).bind fun d => (g ρ).bind fun e => (ofO (G d e)).bind fun z => (ans z).bind fun k => if k = true then (h ρ).bind fun c => ofO (G' e c) else .ok (.bl false)
section
variable {X : Cx} {T : List (Addr × Str)} {W : WX}
theorem q_val {e : Expr} {f : Rho → Res D} (h : DE X T W e f) (he : ∀ whole, isTrue e X.env whole = (do let v ← whole; standAt e.pos; holding [v] (truthy v)) := by intro _; rfl) : DQ X T W e (tst f) :=
  (pt_val h he).to fun _ _ _ h => tst_to h
theorem w_or1 {a : Expr} {pos : Pos} {f : Rho → Res Bool} (h : DQ X T W a f) : DW X T W (.BoolOp .Or [a] pos) f := pw_or1 h
theorem w_or {a b : Expr} {rest : List Expr} {pos : Pos} {f g : Rho → Res Bool} (h : DQ X T W a f) (h2 : DW X T W (.BoolOp .Or (b :: rest) pos) g) : DW X T W (.BoolOp .Or (a :: b :: rest) pos) (orQ f g) :=
  (pw_or h h2).to fun σ H Q ⟨ρ, F, a, h⟩ => by
    refine ⟨ρ, F, a, (aft.bind (R := RBool) h).imp fun d _ v F1 H1 _ _ q => ?_⟩
    obtain ⟨b, F2, _, n, rv, q⟩ := q
    obtain rfl : v = b := rv
    cases v with
    | true => exact q.ok (Nx.refl n.z) rfl
    | false => exact ⟨ρ, F2, a.nx n, q⟩
theorem q_w {e : Expr} {f : Rho → Res Bool} (h : DW X T W e f) : DQ X T W e f := PW.pt h
theorem q_not {a : Expr} {pos : Pos} {f : Rho → Res Bool} (h : DQ X T W a f) : DQ X T W (.UnaryOp .Not a pos) (notQ f) :=
  (pt_not h).to fun σ H Q ⟨ρ, F, a, h⟩ => by
    refine ⟨ρ, F, a, (aft.bind (R := RBool) h).imp fun d _ v F1 H1 _ _ q => ?_⟩
    obtain ⟨b, F2, _, n, rv, q⟩ := q
    obtain rfl : v = b := rv
    exact q.ok (Nx.refl n.z) rfl
theorem e_one {op} {a : Expr} {pos : Pos} {f : Rho → Res D} (h : DE X T W a f) : DE X T W (.BoolOp op [a] pos) f := pe_one h
theorem bool_of {K : PySem.W.Frag} {σ : L2.St} {F H : Hp} {α β : Type} {R : Hp → α → β → Prop} {Q : α → Hp → Prop} {d : D} {v : V} {k : Bool → Res β} (rv : Rp K F v d) (q : aft R K T W σ F H Q ((ans d).bind k)) : ∃ c, v = .bl c ∧ d = .bl c ∧ aft R K T W σ F H Q (k c) := by
  cases rv with
  | bl c => exact ⟨c, rfl, rfl, q⟩
  | _ => exact q.elim
theorem e_and {a b : Expr} {rest : List Expr} {pos : Pos} {f g : Rho → Res D} (h : DE X T W a f) (h2 : DE X T W (.BoolOp .And (b :: rest) pos) g) : DE X T W (.BoolOp .And (a :: b :: rest) pos) (andE f g) :=
  (pe_and h h2).to fun σ H Q ⟨ρ, F, a, h⟩ => by
    refine ⟨ρ, F, a, (aft.bind (R := Rp X.K) h).imp fun d _ v F1 H1 _ _ q => ?_⟩
    obtain ⟨b, F2, _, n, rv, q⟩ := q
    obtain ⟨c, rfl, rfl, q⟩ := bool_of rv q
    refine ⟨c, rfl, ?_⟩
    cases c with
    | true => exact ⟨ρ, F2, a.nx n, q⟩
    | false => exact q.ok (Nx.refl n.z) (.bl false)
theorem e_or {a b : Expr} {rest : List Expr} {pos : Pos} {f g : Rho → Res D} (h : DE X T W a f) (h2 : DE X T W (.BoolOp .Or (b :: rest) pos) g) : DE X T W (.BoolOp .Or (a :: b :: rest) pos) (orE f g) :=
  (pe_or h h2).to fun σ H Q ⟨ρ, F, a, h⟩ => by
    refine ⟨ρ, F, a, (aft.bind (R := Rp X.K) h).imp fun d _ v F1 H1 _ _ q => ?_⟩
    obtain ⟨b, F2, _, n, rv, q⟩ := q
    obtain ⟨c, rfl, rfl, q⟩ := bool_of rv q
    refine ⟨c, rfl, ?_⟩
    cases c with
    | true => exact q.ok (Nx.refl n.z) (.bl true)
    | false => exact ⟨ρ, F2, a.nx n, q⟩
theorem e_not {a : Expr} {pos : Pos} {f : Rho → Res D} (h : DE X T W a f) : DE X T W (.UnaryOp .Not a pos) (notE f) :=
  (pe_not h).to fun σ H Q ⟨ρ, F, a, h⟩ => by
    refine ⟨ρ, F, a, (aft.bind (R := Rp X.K) h).imp fun d _ v F1 H1 _ _ q => ?_⟩
    obtain ⟨b, F2, _, n, rv, q⟩ := q
    obtain ⟨c, rfl, rfl, q⟩ := bool_of rv q
    exact ⟨c, rfl, q.ok (Nx.refl n.z) (.bl _)⟩
theorem chn_to {G G' : D → D → Option D} {K : PySem.W.Frag} {f g h : Rho → Res D} {σ : L2.St} {H : Hp} {Q : VK} (hh : tE K T W (chn G G' f g h) σ H Q) : tChain (rD2 K T G) (rD2 K T G') (tE K T W f) (tE K T W g) (tE K T W h) σ H Q := by
  obtain ⟨ρ, F, a, h⟩ := hh
  refine ⟨ρ, F, a, (aft.bind (R := Rp K) h).imp fun d _ v F1 H1 _ _ q => ?_⟩
  obtain ⟨b, F2, _, n, rv, q⟩ := q
  refine ⟨ρ, F2, a.nx n, (aft.bind (R := Rp K) q).imp fun ds _ vs F3 H3 _ _ q => ?_⟩
  obtain ⟨e, F4, _, n2, rs, q⟩ := q
  have q1 := aft.bind (R := Rp K) q
  obtain ⟨z, hz, q2⟩ := ofO_ok q1
  refine ⟨F4, b, e, z, n2.z, rv.mono n2.f, rs, hz, fun v' F' H' n3 rz => ?_⟩
  obtain ⟨z', F5, ez, n4, rz', q3⟩ := q2 v' F' H' n3 rz
  rw [hz] at ez
  obtain rfl : z = z' := by injection ez
  obtain ⟨k, rfl, rfl, q4⟩ := bool_of rz' q3
  refine ⟨k, rfl, ?_⟩
  cases k with
  | false => exact q4.ok (Nx.refl n4.z) (.bl false)
  | true =>
    refine ⟨ρ, F5, (a.nx (n.trans (n2.trans n4))), (aft.bind (R := Rp K) q4).imp fun c _ w F6 H6 _ _ q => ?_⟩
    obtain ⟨c', F7, _, n5, rc, q⟩ := q
    obtain ⟨z2, hz2, q⟩ := ofO_ok q
    exact ⟨F7, e, c', z2, n5.z, rs.mono (n4.trans n5).f, rc, hz2, q⟩
theorem e_chn {op op' : CmpOp} {G G' : D → D → Option D} {a b c : Expr} {f g h : Rho → Res D} {pos : Pos} (ho : OpR X (compareOp op) (rD2 X.K T G)) (ho' : OpR X (compareOp op') (rD2 X.K T G')) (ha : DE X T W a f) (hb : DE X T W b g) (hc : DE X T W c h)
    (hm : lastMarks [op, op'] [b, c] = false := by with_unfolding_all rfl) : DE X T W (.Compare a [op, op'] [b, c] pos) (chn G G' f g h) :=
  (pe_chain ho ho' ha hb hc hm).to fun _ _ _ h => chn_to h
end

/-! ### displays, subscripts, slices -/
def mkT (f : Rho → Res (List D)) : Rho → Res D := fun ρ => (f ρ).bind fun ds => if ds.length ≤ sizeLine then .ok (.tup ds) else .bad
def mkL (f : Rho → Res (List D)) : Rho → Res D := fun ρ => (f ρ).bind fun ds => if ds.length ≤ sizeLine then .ok (.lst ds) else .bad
def ixD : D → D → Option D
  | .tup xs, .int i => atI xs i
  | .lst xs, .int i => atI xs i
  | .arr ns, .int i => (atI ns i).map .int
  | .str x, .int i => if x.length ≤ sizeLine then (atI x.cps.toList i).map fun c => .str ⟨#[c]⟩ else none
  | _, _ => none
def cutD (xs : List D) (lo hi : Option Int) : List D := (xs.drop (HT.sIx xs.length 0 lo)).take (HT.sIx xs.length xs.length hi - HT.sIx xs.length 0 lo)
def slD : D → Option Int → Option Int → Option D
  | .tup xs, lo, hi => some (.tup (cutD xs lo hi))
  | .lst xs, lo, hi => some (.lst (cutD xs lo hi))
  | .str x, lo, hi => if x.length ≤ sizeLine then some (.str (cutS x lo hi)) else none
  | _, _, _ => none
def pno : Rho → Res (Option Int) := fun _ => .ok none
def intO : D → Res (Option Int)
  | .int i => .ok (some i)
  | _ => .bad
def psm (f : Rho → Res D) : Rho → Res (Option Int) := fun ρ => (f ρ).bind intO
def slc (f : Rho → Res D) (g h : Rho → Res (Option Int)) : Rho → Res D := fun ρ => (f ρ).bind fun d => (g ρ).bind fun lo => (h ρ).bind fun hi => ofO (slD d lo hi)
section
variable {X : Cx} {T : List (Addr × Str)} {W : WX}
theorem e_tup {es : List Expr} {x1} {pos : Pos} {f : Rho → Res (List D)} (h : DA X T W es f) : DE X T W (.Tuple es x1 pos) (mkT f) :=
  (pe_tup h).to fun σ H Q ⟨ρ, F, a, h⟩ => by
    refine ⟨ρ, F, a, (aft.bind (R := RpAll X.K) h).imp fun d _ v F1 H1 _ _ q => ?_⟩
    obtain ⟨ds, F2, _, n, rv, q⟩ := q
    have q : aft (Rp X.K) X.K T W σ F2 H1 Q (if ds.length ≤ sizeLine then .ok (.tup ds) else .bad) := q
    split at q
    · rename_i hl
      exact ⟨by rw [rv.length]; exact hl, fun p hp => q _ _ _ (Nx.push n.z hp ntT) (rp_tup n.z hp rv)⟩
    · exact q.elim
theorem e_lst {es : List Expr} {pos : Pos} {f : Rho → Res (List D)} (h : DA X T W es f) : DE X T W (.List es pos) (mkL f) :=
  (pe_lst h).to fun σ H Q ⟨ρ, F, a, h⟩ => by
    refine ⟨ρ, F, a, (aft.bind (R := RpAll X.K) h).imp fun d _ v F1 H1 _ _ q => ?_⟩
    obtain ⟨ds, F2, _, n, rv, q⟩ := q
    have q : aft (Rp X.K) X.K T W σ F2 H1 Q (if ds.length ≤ sizeLine then .ok (.lst ds) else .bad) := q
    split at q
    · rename_i hl
      exact ⟨by rw [rv.length]; exact hl, fun p hp => q _ _ _ (Nx.push n.z hp ntL) (rp_lst n.z hp rv)⟩
    · exact q.elim
theorem atI_get {K : PySem.W.Frag} {F : Hp} {xs : List V} {ds : List D} {i : Int} {d : D} (r : RpAll K F xs ds) (h : atI ds i = some d) : ∃ v, atI xs i = some v ∧ Rp K F v d := by
  unfold atI at h ⊢
  rw [r.length]
  cases e : ixN ds.length i with
  | none => rw [e] at h; cases h
  | some j =>
    rw [e] at h
    exact r.get h
theorem atI_int {ns : List Int} {i : Int} {z : D} (h : (atI ns i).map D.int = some z) : ∃ n, atI (ns.map V.int) i = some (.int n) ∧ z = .int n := by
  unfold atI at h ⊢
  rw [List.length_map]
  cases e : ixN ns.length i with
  | none => rw [e] at h; cases h
  | some j =>
    rw [e] at h
    have h : (ns[j]?).map D.int = some z := h
    show ∃ n, (ns.map V.int)[j]? = some (.int n) ∧ z = .int n
    rw [List.getElem?_map]
    cases q : ns[j]? with
    | none => rw [q] at h; cases h
    | some n =>
      rw [q] at h
      cases h
      exact ⟨n, rfl, rfl⟩
theorem x_ix : IxR X (rD2 X.K T ixD) := by
  intro value slice pins s σ H x y v u Q I rx ry h hs
  obtain ⟨F, d, e, z, hz, rd, re, hG, q⟩ := h
  cases rd with
  | tup h1 r1 =>
    cases re with
    | int i =>
      obtain ⟨w, hw, rw'⟩ := atI_get r1 hG
      exact ix_tup value slice pins s σ H _ _ v u Q I rx ry ⟨_, _, i, w, rfl, rfl, hz.sub.st h1, hw, done0 hz q rw'⟩ hs
    | _ => cases hG
  | lst h1 r1 =>
    cases re with
    | int i =>
      obtain ⟨w, hw, rw'⟩ := atI_get r1 hG
      exact ix_list value slice pins s σ H _ _ v u Q I rx ry ⟨_, _, i, w, rfl, rfl, SqL.of (hz.sub _ _ h1), hw, done0 hz q rw'⟩ hs
    | _ => cases hG
  | arr h1 =>
    cases re with
    | int i =>
      obtain ⟨n, hn, rfl⟩ := atI_int hG
      exact ix_list value slice pins s σ H _ _ v u Q I rx ry ⟨_, _, i, .int n, rfl, rfl, hz.sub.sl h1, hn, done0 hz q (.int n)⟩ hs
    | _ => cases hG
  | str x =>
    cases re with
    | int i =>
      have hG : (if x.length ≤ sizeLine then (atI x.cps.toList i).map fun c => D.str ⟨#[c]⟩ else none) = some z := hG
      split at hG
      · rename_i hl
        cases e : atI x.cps.toList i with
        | none => rw [e] at hG; cases hG
        | some c =>
          rw [e] at hG
          cases hG
          exact ix_str value slice pins s σ H _ _ v u Q I rx ry ⟨x, i, c, rfl, rfl, hl, e, done0 hz q (.str _)⟩ hs
      · cases hG
    | _ => cases hG
  | _ => cases hG
theorem e_ix {a b : Expr} {f g : Rho → Res D} {pos : Pos} (ha : DE X T W a f) (hb : DE X T W b g) (hs : PlainIx b := by exact fun _ _ => rfl) : DE X T W (.Subscript a b pos) (bop ixD f g) :=
  (pe_ix x_ix ha hb hs).to fun _ _ _ h => bin_to h
abbrev DO (X : Cx) (T : List (Addr × Str)) (W : WX) (e : Option Expr) (f : Rho → Res (Option Int)) : Prop := PO X e (tG (fun _ _ a b => a = b) X.K T W f)
theorem _root_.L2.PO.to {X : Cx} {e : Option Expr} {t u : TO} (h : PO X e t) (k : ∀ σ H Q, u σ H Q → t σ H Q) : PO X e u := ⟨fun pins s σ H Q I q => h.run pins s σ H Q I (k σ H Q q)⟩
theorem p_none : DO X T W none pno := po_none.to fun σ H Q ⟨ρ, F, a, h⟩ => h _ F H (Nx.refl a.z) rfl
theorem p_some {e : Expr} {f : Rho → Res D} (h : DE X T W e f) : DO X T W (some e) (psm f) :=
  (po_some h).to fun σ H Q ⟨ρ, F, a, h⟩ => by
    refine ⟨ρ, F, a, (aft.bind (R := Rp X.K) h).imp fun d _ v F1 H1 _ _ q => ?_⟩
    obtain ⟨b, F2, _, n, rv, q⟩ := q
    cases rv with
    | int i => exact ⟨i, rfl, q.ok (Nx.refl n.z) rfl⟩
    | _ => exact q.elim
theorem RpAll.cut {K : PySem.W.Frag} {F : Hp} {xs : List V} {ds : List D} (r : RpAll K F xs ds) (lo hi : Option Int) : RpAll K F (cutV xs lo hi) (cutD ds lo hi) := by
  unfold cutV cutD
  rw [r.length]
  exact (r.drop _).take _
theorem cut_whole {ds : List D} {lo hi : Option Int} (h : HT.sIx ds.length 0 lo = 0 ∧ HT.sIx ds.length ds.length hi = ds.length) : cutD ds lo hi = ds := by
  unfold cutD
  rw [h.1, h.2]
  simp
def rSlD (K : PySem.W.Frag) (T : List (Addr × Str)) : V → Option Int → Option Int → Hp → VK → Prop := fun x lo hi H Q =>
  ∃ F d z, Fz F H ∧ Rp K F x d ∧ slD d lo hi = some z ∧ ∀ v F' H', Nx T F H F' H' → Rp K F' v z → Q v H'
theorem x_sl : SlR X (rSlD X.K T) := by
  intro pins s σ H x v vl vu lo hi sl Q I rx hs pl pu h
  obtain ⟨F, d, z, hz, rd, hG, q⟩ := h
  cases rd with
  | tup h1 r1 =>
    cases hG
    refine sl_tupA pins s σ H _ v vl vu lo hi sl Q I rx hs pl pu ⟨_, _, rfl, hz.sub.st h1, fun hw => ?_, fun _ p hp => donep hz hp ntT q (rp_tup hz hp (r1.cut lo hi))⟩
    rw [r1.length] at hw
    rw [cut_whole hw] at q
    exact done0 hz q (.tup h1 r1)
  | lst h1 r1 =>
    cases hG
    exact sl_list pins s σ H _ v vl vu lo hi sl Q I rx hs pl pu ⟨_, _, rfl, SqL.of (hz.sub _ _ h1), fun p hp => donep hz hp ntL q (rp_lst hz hp (r1.cut lo hi))⟩
  | str x =>
    have hG : (if x.length ≤ sizeLine then some (D.str (cutS x lo hi)) else none) = some z := hG
    split at hG
    · rename_i hl
      cases hG
      exact sl_str pins s σ H _ v vl vu lo hi sl Q I rx hs pl pu ⟨x, rfl, hl, done0 hz q (.str _)⟩
    · cases hG
  | _ => cases hG
theorem e_sl {e : Expr} {lo hi : Option Expr} {f : Rho → Res D} {g h : Rho → Res (Option Int)} {p2 pos : Pos} (he : DE X T W e f) (hl : DO X T W lo g) (hh : DO X T W hi h) : DE X T W (.Subscript e (.Slice lo hi none p2) pos) (slc f g h) :=
  (pe_slice x_sl he hl hh).to fun σ H Q ⟨ρ, F, a, h⟩ => by
    refine ⟨ρ, F, a, (aft.bind (R := Rp X.K) h).imp fun d _ v F1 H1 _ _ q => ?_⟩
    obtain ⟨b, F2, _, n, rv, q⟩ := q
    refine ⟨ρ, F2, a.nx n, (aft.bind (R := fun _ a b => a = b) q).imp fun lo _ v' F3 H3 _ _ q => ?_⟩
    obtain ⟨lo', F4, _, n2, rl, q⟩ := q
    subst rl
    refine ⟨ρ, F4, a.nx (n.trans n2), (aft.bind (R := fun _ a b => a = b) q).imp fun hi _ v'' F5 H5 _ _ q => ?_⟩
    obtain ⟨hi', F6, _, n3, rh, q⟩ := q
    subst rh
    obtain ⟨z, hz, q⟩ := ofO_ok q
    exact ⟨F6, b, z, n3.z, rv.mono (n2.trans n3).f, hz, q⟩
end

/-! ### calls of built-ins -/
section
variable {X : Cx} {T : List (Addr × Str)} {W : WX}
theorem cal_to {K : PySem.W.Frag} {G : List D → Option D} {f : Rho → Res (List D)} {σ : L2.St} {H : Hp} {Q : VK} (h : tE K T W (cal G f) σ H Q) : tCB (rDn K T G) (tA K T W f) σ H Q := by
  obtain ⟨ρ, F, a, h⟩ := h
  refine ⟨ρ, F, a, (aft.bind (R := RpAll K) h).imp fun d _ v F1 H1 _ _ q => ?_⟩
  obtain ⟨b, F2, _, n, rv, q⟩ := q
  obtain ⟨z, hz, q⟩ := ofO_ok q
  exact ⟨F2, b, z, n.z, rv, hz, q⟩
theorem e_callB {id : String} {x : Str} {G : List D → Option D} {e : Expr} {es : List Expr} {p pos : Pos} {f : Rho → Res (List D)} (hc : CallR X (.builtin id) (rDn X.K T G)) (hg : Gl X x) (hm : X.mg x = none) (hv : bootBuiltins x = some (.builtin id)) (ha : DA X T W (e :: es) f)
    (hn : x ≠ "__name__" := by decide) (hdb : (x == ("__debug__" : Str)) = false := by decide) (hpl : starEach (e :: es) X.env = (false, eval e X.env) :: starEach es X.env := by rfl) (hpl2 : (backTo pos (starEach es X.env)).any (·.1) = false := by rfl) : DE X T W (.Call (.Name x p) (e :: es) [] pos) (cal G f) :=
  (pe_callB hc hg hm hv ha hn hdb hpl hpl2).to fun _ _ _ h => cal_to h
theorem e_callTy {T' : String} {x : Str} {G : List D → Option D} {e : Expr} {es : List Expr} {p pos : Pos} {f : Rho → Res (List D)} (hc : CallR X (.type T') (rDn X.K T G)) (hg : Gl X x) (hm : X.mg x = none) (hv : bootBuiltins x = some (.type T')) (ha : DA X T W (e :: es) f)
    (hn : x ≠ "__name__" := by decide) (hdb : (x == ("__debug__" : Str)) = false := by decide) (hpl : starEach (e :: es) X.env = (false, eval e X.env) :: starEach es X.env := by rfl) (hpl2 : (backTo pos (starEach es X.env)).any (·.1) = false := by rfl) : DE X T W (.Call (.Name x p) (e :: es) [] pos) (cal G f) :=
  (pe_callTy hc hg hm hv ha hn hdb hpl hpl2).to fun _ _ _ h => cal_to h
end
def lenD : List D → Option D
  | [.str x] => if x.length ≤ sizeLine then some (.int x.length) else none
  | [.tup xs] => some (.int xs.length)
  | [.lst xs] => some (.int xs.length)
  | [.arr ns] => some (.int ns.length)
  | _ => none
def absD : List D → Option D
  | [.int i] => some (.int (if i < 0 then -i else i))
  | _ => none
def maxD : List D → Option D
  | [.int i, .int j] => some (.int (if j > i then j else i))
  | _ => none
def minD : List D → Option D
  | [.int i, .int j] => some (.int (if j < i then j else i))
  | _ => none
def intD : List D → Option D
  | [.int i] => some (.int i)
  | [.bl k] => some (.int (if k then 1 else 0))
  | [.str x] => if x.length ≤ 640 then (PySem.intText? x).map .int else none
  | _ => none
def strD : List D → Option D
  | [.int i] => if i.natAbs.log2 < 1920 then some (.str (toString i)) else none
  | _ => none
def tupD : List D → Option D
  | [.lst xs] => some (.tup xs)
  | [.tup xs] => some (.tup xs)
  | _ => none
def listD : List D → Option D
  | [.lst xs] => some (.lst xs)
  | [.tup xs] => some (.lst xs)
  | [.str x] => if x.length ≤ 1000000 then some (.lst (x.cps.toList.map fun c => .str ⟨#[c]⟩)) else none
  | _ => none
def allB : List D → Option (List Bool)
  | [] => some []
  | .bl b :: r => (allB r).map (b :: ·)
  | _ => none
def allD : List D → Option D
  | [.lst xs] => (allB xs).map fun bs => .bl (bs.all id)
  | _ => none
def tyD : D → Option String
  | .non => some "NoneType"
  | .bl _ => some "bool"
  | .int _ => some "int"
  | .str _ => some "str"
  | .lst _ => some "list"
  | .tup _ => some "tuple"
  | _ => none
def isiD : List D → Option D
  | [d, .ty n] => (tyD d).bind fun t => (kitB t n).map .bl
  | _ => none
section
variable {X : Cx} {T : List (Addr × Str)} {W : WX}
theorem all1 {K : PySem.W.Frag} {F : Hp} {xs : List V} {d : D} (r : RpAll K F xs [d]) : ∃ v, xs = [v] ∧ Rp K F v d := by
  cases r with
  | cons h t => cases t; exact ⟨_, rfl, h⟩
theorem all2 {K : PySem.W.Frag} {F : Hp} {xs : List V} {d e : D} (r : RpAll K F xs [d, e]) : ∃ v w, xs = [v, w] ∧ Rp K F v d ∧ Rp K F w e := by
  cases r with
  | cons h t =>
    obtain ⟨w, rfl, h2⟩ := all1 t
    exact ⟨_, w, rfl, h, h2⟩
theorem c_len : CallR X (.builtin "len") (rDn X.K T lenD) := by
  intro pins s σ H xs us Q I r h
  obtain ⟨F, ds, z, hz, rs, hG, q⟩ := h
  unfold lenD at hG
  split at hG
  · rename_i x
    obtain ⟨v, rfl, rv⟩ := all1 rs
    cases rv
    split at hG
    · rename_i hl
      cases hG
      exact call_len_str pins s σ H _ us Q I r ⟨x, rfl, hl, done0 hz q (.int _)⟩
    · cases hG
  · obtain ⟨v, rfl, rv⟩ := all1 rs
    cases hG
    cases rv with
    | tup h1 r1 => exact call_len_seq pins s σ H _ us Q I r ⟨_, _, rfl, .inr (hz.sub.st h1), by rw [r1.length]; exact done0 hz q (.int _)⟩
  · obtain ⟨v, rfl, rv⟩ := all1 rs
    cases hG
    cases rv with
    | lst h1 r1 => exact call_len_seq pins s σ H _ us Q I r ⟨_, _, rfl, .inl (SqL.of (hz.sub _ _ h1)), by rw [r1.length]; exact done0 hz q (.int _)⟩
  · obtain ⟨v, rfl, rv⟩ := all1 rs
    cases hG
    cases rv with
    | arr h1 => exact call_len_seq pins s σ H _ us Q I r ⟨_, _, rfl, .inl (hz.sub.sl h1), by rw [List.length_map]; exact done0 hz q (.int _)⟩
  · cases hG
theorem c_int : CallR X (.type "int") (rDn X.K T intD) := by
  intro pins s σ H xs us Q I r h
  obtain ⟨F, ds, z, hz, rs, hG, q⟩ := h
  unfold intD at hG
  split at hG
  · obtain ⟨v, rfl, rv⟩ := all1 rs
    cases rv
    cases hG
    exact call_int1 pins s σ H _ us Q I r (.inl ⟨_, rfl, done0 hz q (.int _)⟩)
  · obtain ⟨v, rfl, rv⟩ := all1 rs
    cases rv
    cases hG
    exact call_int1 pins s σ H _ us Q I r (.inr ⟨_, rfl, done0 hz q (.int _)⟩)
  · rename_i x
    obtain ⟨v, rfl, rv⟩ := all1 rs
    cases rv
    split at hG
    · rename_i hl
      cases e : PySem.intText? x with
      | none => rw [e] at hG; cases hG
      | some n =>
        rw [e] at hG
        cases hG
        exact call_int_str pins s σ H _ us Q I r ⟨x, n, rfl, e, hl, done0 hz q (.int _)⟩
    · cases hG
  · cases hG
theorem c_str : CallR X (.type "str") (rDn X.K T strD) := by
  intro pins s σ H xs us Q I r h
  obtain ⟨F, ds, z, hz, rs, hG, q⟩ := h
  unfold strD at hG
  split at hG
  · obtain ⟨v, rfl, rv⟩ := all1 rs
    cases rv
    split at hG
    · rename_i hl
      cases hG
      exact call_str_int pins s σ H _ us Q I r ⟨_, rfl, hl, done0 hz q (.str _)⟩
    · cases hG
  · cases hG
theorem c_tup : CallR X (.type "tuple") (rDn X.K T tupD) := by
  intro pins s σ H xs us Q I r h
  obtain ⟨F, ds, z, hz, rs, hG, q⟩ := h
  unfold tupD at hG
  split at hG
  · obtain ⟨v, rfl, rv⟩ := all1 rs
    cases hG
    cases rv with
    | lst h1 r1 => exact call_tuple_of pins s σ H _ us Q I r ⟨_, _, rfl, .inl ⟨SqL.of (hz.sub _ _ h1), fun p hp => donep hz hp ntT q (rp_tup hz hp r1)⟩⟩
  · obtain ⟨v, rfl, rv⟩ := all1 rs
    cases hG
    cases rv with
    | tup h1 r1 => exact call_tuple_of pins s σ H _ us Q I r ⟨_, _, rfl, .inr ⟨hz.sub.st h1, done0 hz q (.tup h1 r1)⟩⟩
  · cases hG
theorem vals_signs {x : Str} : ∀ (cs : List Nat) (us : List Value) (k : Nat), x.cps.toList.drop k = cs → us.length = cs.length → (∀ j v, us[j]? = some v → ∃ c u, x.cps[k + j]? = some c ∧ v = .str ⟨#[c]⟩ u) → Vals (cs.map fun c => V.str ⟨#[c]⟩) us
  | [], [], _, _, _, _ => .nil
  | [], _ :: _, _, _, h, _ => by simp at h
  | _ :: _, [], _, _, h, _ => by simp at h
  | c :: cs, u :: us, k, hd, hl, h => by
    obtain ⟨c', t, h1, h2⟩ := h 0 u rfl
    have e : x.cps.toList[k]? = some c := by
      have := congrArg (fun l => l[0]?) hd
      simpa [List.getElem?_drop] using this
    have e2 : x.cps[k + 0]? = some c := by simpa using e
    rw [e2] at h1
    cases h1
    refine .cons ⟨t, h2⟩ (vals_signs (x := x) cs us (k + 1) ?_ (by simpa using hl) fun j v hj => ?_)
    · have := congrArg List.tail hd
      simpa [List.tail_drop] using this
    · obtain ⟨c2, t2, h3, h4⟩ := h (j + 1) v (by simpa using hj)
      exact ⟨c2, t2, by rw [show k + 1 + j = k + (j + 1) by omega]; exact h3, h4⟩
theorem call_list_text (hc : X.calm = true) : CallR X (.type "list") (fun xs H Q => ∃ x : Str, xs = [.str x] ∧ x.length ≤ sizeLine ∧ ∀ l, H l = none → Q (.ref l) (upd H l (.lst (x.cps.toList.map fun c => V.str ⟨#[c]⟩)))) := by
  intro pins s σ H xs us Q I r h
  obtain ⟨x, rfl, hz, q⟩ := h
  obtain ⟨u, rfl, t, rfl⟩ := vals1 r
  refine call_list_str (I.ok.hd hc) x t (fun h' tk acc' c' kp e hacc => ?_) (hn := hz)
  have vs : Vals (x.cps.toList.map fun c => V.str ⟨#[c]⟩) acc'.toList := by
    refine vals_signs (x := x) x.cps.toList acc'.toList 0 (by simp) (by have := hacc.1; simp [this]) fun j v hj => ?_
    obtain ⟨c, u, h1, h2⟩ := hacc.2 j v (by simpa using hj)
    exact ⟨c, u, by rw [Nat.zero_add]; exact h1, h2⟩
  refine ⟨.ref s.heap.objs.size, _, I.laid (t' := tk) kp (Nat.le_refl _) (show ObjOk X.prog X.w _ h' _ (.lst (x.cps.toList.map fun c => V.str ⟨#[c]⟩)) from ⟨?_, acc'.toList, c', vs, ?_⟩), rfl, q _ (I.hok.fresh (Nat.le_refl _))⟩
  · rw [List.length_map]
    simpa [Str.length] using hz
  · simpa using e
theorem rp_signs {K : PySem.W.Frag} {F : Hp} (x : Str) : RpAll K F (x.cps.toList.map fun c => V.str ⟨#[c]⟩) (x.cps.toList.map fun c => D.str ⟨#[c]⟩) := by
  induction x.cps.toList with
  | nil => exact .nil
  | cons c l ih => exact .cons (.str _) ih
theorem c_list (hc : X.calm = true) : CallR X (.type "list") (rDn X.K T listD) := by
  intro pins s σ H xs us Q I r h
  obtain ⟨F, ds, z, hz, rs, hG, q⟩ := h
  unfold listD at hG
  split at hG
  · obtain ⟨v, rfl, rv⟩ := all1 rs
    cases hG
    cases rv with
    | lst h1 r1 => exact call_list_of pins s σ H _ us Q I r ⟨_, _, rfl, .inl (SqL.of (hz.sub _ _ h1)), fun p hp => donep hz hp ntL q (rp_lst hz hp r1)⟩
  · obtain ⟨v, rfl, rv⟩ := all1 rs
    cases hG
    cases rv with
    | tup h1 r1 => exact call_list_of pins s σ H _ us Q I r ⟨_, _, rfl, .inr (hz.sub.st h1), fun p hp => donep hz hp ntL q (rp_lst hz hp r1)⟩
  · rename_i x
    obtain ⟨v, rfl, rv⟩ := all1 rs
    cases rv with
    | str _ =>
      split at hG
      · rename_i hx
        cases hG
        exact call_list_text hc pins s σ H _ us Q I r ⟨x, rfl, by rw [sizeLine_eq]; omega, fun p hp => donep hz hp ntL q (rp_lst hz hp (rp_signs x))⟩
      · cases hG
  · cases hG
theorem allB_rp {K : PySem.W.Frag} {F : Hp} : ∀ {ds : List D} {xs : List V} {bs : List Bool}, RpAll K F xs ds → allB ds = some bs → xs = bs.map V.bl
  | [], _, bs, .nil, h => by cases h; rfl
  | .bl b :: ds, _, bs, .cons r t, h => by
    have h : (allB ds).map (b :: ·) = some bs := h
    cases e : allB ds with
    | none => rw [e] at h; cases h
    | some bs' =>
      rw [e] at h
      cases h
      cases r
      rw [allB_rp t e] <;> rfl
  | .non :: _, _, _, _, h => by cases h
  | .int _ :: _, _, _, _, h => by cases h
  | .str _ :: _, _, _, _, h => by cases h
  | .lst _ :: _, _, _, _, h => by cases h
  | .tup _ :: _, _, _, _, h => by cases h
  | .fn _ :: _, _, _, _, h => by cases h
  | .ty _ :: _, _, _, _, h => by cases h
  | .dK _ :: _, _, _, _, h => by cases h
  | .dT _ :: _, _, _, _, h => by cases h
  | .arr _ :: _, _, _, _, h => by cases h
  | .pro _ :: _, _, _, _, h => by cases h
  | .dic _ _ _ _ :: _, _, _, _, h => by cases h
  | .adr _ :: _, _, _, _, h => by cases h
  | .ins _ _ _ :: _, _, _, _, h => by cases h
  | .tab _ _ _ :: _, _, _, _, h => by cases h
theorem c_all (hc : X.calm = true) : CallR X (.builtin "all") (rDn X.K T allD) := by
  intro pins s σ H xs us Q I r h
  obtain ⟨F, ds, z, hz, rs, hG, q⟩ := h
  unfold allD at hG
  split at hG
  · rename_i es
    obtain ⟨v, rfl, rv⟩ := all1 rs
    cases e : allB es with
    | none => rw [e] at hG; cases hG
    | some bs =>
      rw [e] at hG
      cases hG
      cases rv with
      | lst h1 r1 =>
        have ex := allB_rp r1 e
        subst ex
        exact cr_all hc pins s σ H _ us Q I r ⟨_, bs, rfl, SqL.of (hz.sub _ _ h1), done0 hz q (.bl _)⟩
  · cases hG
theorem ty_of {K : PySem.W.Frag} {F H : Hp} {v : V} {d : D} {t : String} (hz : Fz F H) (r : Rp K F v d) (h : tyD d = some t) : TyX K H v (.type t) := by
  cases r with
  | non => cases h; exact .base .non
  | bl b => cases h; exact .base (.bl b)
  | int i => cases h; exact .base (.int i)
  | str x => cases h; exact .base (.str x)
  | lst h1 _ => cases h; exact .base (.lst (hz.sub _ _ h1))
  | tup h1 _ =>
    cases h
    rcases h1 with (h1 | ⟨o, h1⟩) | ⟨o, its, n, hk, hc, _⟩
    · exact .base (.tup (hz.sub _ _ h1))
    · exact .fTuple (hz.sub _ _ h1)
    · exact .kTuple hk hc
  | _ => cases h
theorem c_isi : CallR X (.builtin "isinstance") (rDn X.K T isiD) := by
  intro pins s σ H xs us Q I r h
  obtain ⟨F, ds, z, hz, rs, hG, q⟩ := h
  unfold isiD at hG
  split at hG
  · rename_i d n
    obtain ⟨v, w, rfl, rv, rw'⟩ := all2 rs
    cases rw'
    cases e : tyD d with
    | none => rw [e] at hG; cases hG
    | some t =>
      rw [e] at hG
      have hG : (kitB t n).map D.bl = some z := hG
      cases e2 : kitB t n with
      | none => rw [e2] at hG; cases hG
      | some b =>
        rw [e2] at hG
        cases hG
        exact call_isi pins s σ H _ us Q I r ⟨v, _, _, _, b, rfl, .ty n, ty_of hz rv e, kit_ty e2, done0 hz q (.bl b)⟩
  · cases hG
end
end DN
namespace DN
open PySem PySem.Spec PyProof.Rows L2
open LamX (Tabs ExtN)

/-! ### == and != of data -/
def flatD : D → Bool
  | .non => true
  | .bl _ => true
  | .int _ => true
  | .str _ => true
  | _ => false
mutual
def eqd : D → D → Bool
  | .non, .non => true
  | .bl a, .bl b => a == b
  | .bl a, .int j => (if a then 1 else 0) == j
  | .int i, .bl b => i == (if b then 1 else 0)
  | .int i, .int j => i == j
  | .str x, .str y => x == y
  | .lst xs, .lst ys => eqds xs ys
  | .tup xs, .tup ys => eqds xs ys
  | _, _ => false
def eqds : List D → List D → Bool
  | [], [] => true
  | x :: xs, y :: ys => eqd x y && eqds xs ys
  | _, _ => false
end
mutual
/-- plain data that is no deeper than n -/
def plain : Nat → D → Bool
  | _, .non => true
  | _, .bl _ => true
  | _, .int _ => true
  | _, .str x => PyData.strOk x
  | n + 1, .lst xs => plains n xs
  | n + 1, .tup xs => plains n xs
  | _, _ => false
def plains : Nat → List D → Bool
  | _, [] => true
  | n, x :: xs => plain n x && plains n xs
end
mutual
def pyO : D → PyData
  | .non => .none
  | .bl b => .bool b
  | .int i => .int i
  | .str x => .str x
  | .lst xs => .list (pyA xs)
  | .tup xs => .tuple (pyA xs)
  | _ => .none
def pyA : List D → List PyData
  | [] => []
  | x :: xs => pyO x :: pyA xs
end
mutual
theorem plain_py {K : PySem.W.Frag} {H : Hp} : ∀ (n : Nat) (d : D) (v : V), plain n d = true → Rp K H v d → Dp K H v (pyO d) ∧ (pyO d).canLay0 = true ∧ (pyO d).depth ≤ n
  | n, .non, _, _, .non => by
    unfold pyO
    exact ⟨.non, by simp [PyData.canLay0], by simp [PyData.depth]⟩
  | n, .bl b, _, _, .bl _ => by
    unfold pyO
    exact ⟨.bl b, by simp [PyData.canLay0], by simp [PyData.depth]⟩
  | n, .int b, _, _, .int _ => by
    unfold pyO
    exact ⟨.int b, by simp [PyData.canLay0], by simp [PyData.depth]⟩
  | n, .str b, _, h, .str _ => by
    unfold plain at h
    unfold pyO
    exact ⟨.str b, by simpa [PyData.canLay0] using h, by simp [PyData.depth]⟩
  | n + 1, .lst xs, _, h, .lst h1 r => by
    unfold plain at h
    obtain ⟨a, b, c⟩ := plains_py n xs _ h r
    unfold pyO
    exact ⟨.lst (SqL.of h1) a, by simpa [PyData.canLay0] using b, by simp only [PyData.depth]; omega⟩
  | n + 1, .tup xs, _, h, .tup h1 r => by
    unfold plain at h
    obtain ⟨a, b, c⟩ := plains_py n xs _ h r
    unfold pyO
    exact ⟨.tup h1 a, by simpa [PyData.canLay0] using b, by simp only [PyData.depth]; omega⟩
  | 0, .lst xs, _, h, _ => by simp [plain] at h
  | 0, .tup xs, _, h, _ => by simp [plain] at h
  | _, .fn _, _, h, _ => by simp [plain] at h
  | _, .ty _, _, h, _ => by simp [plain] at h
  | _, .dK _, _, h, _ => by simp [plain] at h
  | _, .dT _, _, h, _ => by simp [plain] at h
  | _, .arr _, _, h, _ => by simp [plain] at h
  | _, .pro _, _, h, _ => by simp [plain] at h
  | _, .dic _ _ _ _, _, h, _ => by simp [plain] at h
  | _, .adr _, _, h, _ => by simp [plain] at h
  | _, .ins _ _ _, _, h, _ => by simp [plain] at h
  | _, .tab _ _ _, _, h, _ => by simp [plain] at h
theorem plains_py {K : PySem.W.Frag} {H : Hp} : ∀ (n : Nat) (ds : List D) (vs : List V), plains n ds = true → RpAll K H vs ds → DpAll K H vs (pyA ds) ∧ PyData.canLayAll0 (pyA ds) = true ∧ PyData.depthAll (pyA ds) ≤ n
  | n, [], _, _, .nil => by
    unfold pyA
    exact ⟨.nil, by simp [PyData.canLayAll0], by simp [PyData.depthAll]⟩
  | n, d :: ds, _, h, .cons r t => by
    unfold plains at h
    rw [Bool.and_eq_true] at h
    obtain ⟨a, b, c⟩ := plain_py n d _ h.1 r
    obtain ⟨a2, b2, c2⟩ := plains_py n ds _ h.2 t
    unfold pyA
    exact ⟨.cons a a2, by simp [PyData.canLayAll0, b, b2], by simp only [PyData.depthAll]; omega⟩
end
mutual
theorem eqd_py : ∀ (n m : Nat) (d e : D), plain n d = true → plain m e = true → PyData.eqv (pyO d) (pyO e) = eqd d e
  | n, m, d, e, hd, he => by
    cases d <;> cases e <;> first
      | (simp only [pyO, PyData.eqv, eqd]; done)
      | (cases n <;> simp [plain] at hd; done)
      | (cases m <;> simp [plain] at he; done)
      | (cases n with
         | zero => simp [plain] at hd
         | succ n =>
           cases m with
           | zero => simp [plain] at he
           | succ m =>
             unfold plain at hd he
             simp only [pyO, PyData.eqv, eqd]
             exact eqds_py n m _ _ hd he)
theorem eqds_py : ∀ (n m : Nat) (d e : List D), plains n d = true → plains m e = true → PyData.eqvAll (pyA d) (pyA e) = eqds d e
  | n, m, [], [], _, _ => by simp [pyA, PyData.eqvAll, eqds]
  | n, m, [], _ :: _, _, _ => by simp [pyA, PyData.eqvAll, eqds]
  | n, m, _ :: _, [], _, _ => by simp [pyA, PyData.eqvAll, eqds]
  | n, m, x :: xs, y :: ys, hd, he => by
    unfold plains at hd he
    rw [Bool.and_eq_true] at hd he
    simp only [pyA, PyData.eqvAll, eqds]
    rw [eqd_py n m x y hd.1 he.1, eqds_py n m xs ys hd.2 he.2]
end
def eqOk (d e : D) : Bool := (flatD d && flatD e) || (plain 64 d && plain 64 e)
def eqD (d e : D) : Option D := if eqOk d e = true then some (.bl (eqd d e)) else none
def neD (d e : D) : Option D := if eqOk d e = true then some (.bl (!eqd d e)) else none
section
variable {X : Cx} {T : List (Addr × Str)} {W : WX}
/-- either two scalars that == tells apart, or plain data -/
theorem eq_cases {K : PySem.W.Frag} {F H : Hp} {x y : V} {d e : D} (hz : Fz F H) (rd : Rp K F x d) (re : Rp K F y e) (h : eqOk d e = true) :
    (scal x y = true ∧ decide (x = y) = eqd d e) ∨ (∃ a b, Dp K H x a ∧ Dp K H y b ∧ SeqAt.shaped a = true ∧ SeqAt.shaped b = true ∧ PyData.eqv a b = eqd d e) := by
  have deep : plain 64 d = true → plain 64 e = true → ∃ a b, Dp K H x a ∧ Dp K H y b ∧ SeqAt.shaped a = true ∧ SeqAt.shaped b = true ∧ PyData.eqv a b = eqd d e := fun hd he => by
    obtain ⟨a1, a2, a3⟩ := plain_py 64 d x hd (rd.mono hz.sub)
    obtain ⟨b1, b2, b3⟩ := plain_py 64 e y he (re.mono hz.sub)
    refine ⟨_, _, a1, b1, ?_, ?_, eqd_py 64 64 d e hd he⟩
    · unfold SeqAt.shaped
      rw [a2, decide_eq_true a3] <;> rfl
    · unfold SeqAt.shaped
      rw [b2, decide_eq_true b3] <;> rfl
  unfold eqOk at h
  rw [Bool.or_eq_true, Bool.and_eq_true, Bool.and_eq_true] at h
  rcases h with ⟨h1, h2⟩ | ⟨h1, h2⟩
  · cases rd <;> cases re <;> first
      | (cases h1; done)
      | (cases h2; done)
      | (refine .inr (deep ?_ ?_) <;> simp [plain] <;> done)
      | (refine .inl ⟨rfl, ?_⟩; simp only [eqd]; first | exact dec_str | (simp; done))
  · exact .inr (deep h1 h2)
theorem o_eq (hu : X.A.units + 64 < cLine) : OpR X (compareOp .Eq) (rD2 X.K T eqD) := by
  intro pins s σ H x y v u Q I rx ry h
  obtain ⟨F, d, e, z, hz, rd, re, hG, q⟩ := h
  unfold eqD at hG
  split at hG
  · rename_i hk
    cases hG
    rcases eq_cases hz rd re hk with ⟨h1, h2⟩ | ⟨a, b, h1, h2, h3, h4, h5⟩
    · exact op_eq pins s σ H x y v u Q I rx ry ⟨h1, by rw [h2]; exact done0 hz q (.bl _)⟩
    · exact op_eqD hu pins s σ H x y v u Q I rx ry ⟨a, b, h1, h2, h3, h4, by rw [h5]; exact done0 hz q (.bl _)⟩
  · cases hG
theorem o_ne (hu : X.A.units + 64 < cLine) : OpR X (compareOp .NotEq) (rD2 X.K T neD) := by
  intro pins s σ H x y v u Q I rx ry h
  obtain ⟨F, d, e, z, hz, rd, re, hG, q⟩ := h
  unfold neD at hG
  split at hG
  · rename_i hk
    cases hG
    rcases eq_cases hz rd re hk with ⟨h1, h2⟩ | ⟨a, b, h1, h2, h3, h4, h5⟩
    · exact op_ne pins s σ H x y v u Q I rx ry ⟨h1, by rw [h2]; exact done0 hz q (.bl _)⟩
    · exact op_neD hu pins s σ H x y v u Q I rx ry ⟨a, b, h1, h2, h3, h4, by rw [h5]; exact done0 hz q (.bl _)⟩
  · cases hG
end

/-! ### in, not in -/
def hasS (x y : Str) : Bool := if x.cps.size = 1 then decide (x.cps.getD 0 0 ∈ y.cps.toList) else !(Builtin.Str.occurrences y x 0 y.length 1).isEmpty
def inL (d : D) (xs : List D) : Option Bool := if (flatD d && xs.all flatD) = true then some (xs.any fun y => eqd y d) else if (plain 60 d && plains 60 xs) = true then some (xs.any fun y => eqd y d) else none
def inB : D → D → Option Bool
  | .str x, .str y => some (hasS x y)
  | d, .tup xs => inL d xs
  | d, .lst xs => inL d xs
  | _, _ => none
def inD (d e : D) : Option D := (inB d e).map .bl
section
variable {X : Cx} {T : List (Addr × Str)} {W : WX}
theorem flat_rp {K : PySem.W.Frag} {F : Hp} {v : V} {d : D} (r : Rp K F v d) (h : flatD d = true) : flatV v = true := by
  cases r <;> first | rfl | cases h
theorem flat_all {K : PySem.W.Frag} {F : Hp} : ∀ {vs : List V} {ds : List D}, RpAll K F vs ds → ds.all flatD = true → vs.all flatV = true
  | _, _, .nil, _ => rfl
  | _, _, .cons r t, h => by
    rw [List.all_cons, Bool.and_eq_true] at h
    rw [List.all_cons, flat_rp r h.1, flat_all t h.2] <;> rfl
theorem eqV_eqd {K : PySem.W.Frag} {F : Hp} {v w : V} {d e : D} (r : Rp K F v d) (q : Rp K F w e) (h : flatD d = true) (h2 : flatD e = true) : eqV v w = eqd d e := by
  cases r <;> first
    | (cases h; done)
    | (cases q <;> first | (cases h2; done) | (simp [eqV, eqd]; done))
theorem inV_eq {K : PySem.W.Frag} {F : Hp} {w : V} {e : D} (q : Rp K F w e) (h2 : flatD e = true) : ∀ {vs : List V} {ds : List D}, RpAll K F vs ds → ds.all flatD = true → inV w vs = ds.any fun y => eqd y e
  | _, _, .nil, _ => rfl
  | v :: vs, d :: ds, .cons r t, h => by
    rw [List.all_cons, Bool.and_eq_true] at h
    have ih := inV_eq q h2 t h.2
    unfold inV at ih ⊢
    rw [List.any_cons, List.any_cons, ih, eqV_eqd r q h.1 h2]
theorem one_of {x : Str} (h : x.cps.size = 1) : x = ⟨#[x.cps.getD 0 0]⟩ := by
  obtain ⟨cps⟩ := x
  simp only at h ⊢
  congr 1
  apply Array.ext
  · simp [h]
  · intro i h1 h2
    have : i = 0 := by omega
    subst this
    simp [Array.getD, h]
theorem any_py (d : D) (hd : plain 60 d = true) : ∀ ds : List D, plains 60 ds = true → ((pyA ds).any fun z => PyData.eqv z (pyO d)) = ds.any fun y => eqd y d
  | [], _ => rfl
  | y :: ds, h => by
    have h : (plain 60 y && plains 60 ds) = true := h
    rw [Bool.and_eq_true] at h
    show (PyData.eqv (pyO y) (pyO d) || (pyA ds).any fun z => PyData.eqv z (pyO d)) = _
    rw [eqd_py 60 60 y d h.1 hd, any_py d hd ds h.2]
    rfl
theorem in_deep {pins : List (Addr × Obj)} {s : Shared} {σ : L2.St} {H F : Hp} {x : V} {v u : Value} {a : Addr} {xs : List V} {d : D} {ds : List D} {Q : VK} (hu : X.A.units + 64 < cLine) (I : Inv X pins σ H s) (hz : Fz F H) (rx : RelV x v) (ry : RelV (.ref a) u) (rd : Rp X.K F x d) (hs : SqT X.K F a xs ∨ F a = some (.lst xs)) (r1 : RpAll X.K F xs ds) (hd : plain 60 d = true) (hds : plains 60 ds = true) :
    (Q (.bl (ds.any fun y => eqd y d)) H → wpAny (model X.prog X.w) X.A (compareOp .In v u) (EP X pins σ Q) X.xe s) ∧ (Q (.bl (!ds.any fun y => eqd y d)) H → wpAny (model X.prog X.w) X.A (compareOp .NotIn v u) (EP X pins σ Q) X.xe s) := by
  obtain ⟨a1, a2, a3⟩ := plain_py 60 d x hd (rd.mono hz.sub)
  obtain ⟨b1, b2, b3⟩ := plains_py 60 ds xs hds (r1.mono hz.sub)
  obtain ⟨as, q1⟩ := Dp.reads I _ x v a1 rx
  have room : X.A.units + 1 + min (PyData.depthAll (pyA ds)) (pyO d).depth < cLine := by omega
  rw [← any_py d hd ds hds]
  rcases hs with hs | hs
  · have c1 : Dp X.K H (.ref a) (.tuple (pyA ds)) := Dp.tup (hz.sub.st hs) b1
    obtain ⟨bs, q2⟩ := Dp.reads I _ (.ref a) u c1 ry
    exact ⟨fun q => SeqAt.in_tuple_reads q2 q1 b2 a2 room ⟨.bl _, H, I, rfl, q⟩, fun q => SeqAt.notIn_tuple_reads q2 q1 b2 a2 room ⟨.bl _, H, I, rfl, q⟩⟩
  · have c1 : Dp X.K H (.ref a) (.list (pyA ds)) := Dp.lst (SqL.of (hz.sub _ _ hs)) b1
    obtain ⟨bs, q2⟩ := Dp.reads I _ (.ref a) u c1 ry
    exact ⟨fun q => SeqAt.in_list_reads q2 q1 b2 a2 room ⟨.bl _, H, I, rfl, q⟩, fun q => SeqAt.notIn_list_reads q2 q1 b2 a2 room ⟨.bl _, H, I, rfl, q⟩⟩
theorem o_in (hu : X.A.units + 64 < cLine) : OpR X (compareOp .In) (rD2 X.K T inD) := by
  intro pins s σ H x y v u Q I rx ry h
  obtain ⟨F, d, e, z, hz, rd, re, hG, q⟩ := h
  unfold inD at hG
  cases hb : inB d e with
  | none => rw [hb] at hG; cases hG
  | some b =>
    rw [hb] at hG
    cases hG
    cases re with
    | str y =>
      cases rd with
      | str x =>
        have hb : some (hasS x y) = some b := hb
        unfold hasS at hb
        split at hb
        · rename_i h1
          cases hb
          exact op_in_sign pins s σ H _ _ v u Q I rx ry ⟨x.cps.getD 0 0, y, congrArg V.str (one_of h1), rfl, done0 hz q (.bl _)⟩
        · cases hb
          exact op_in_str pins s σ H _ _ v u Q I rx ry ⟨x, y, rfl, rfl, done0 hz q (.bl _)⟩
      | _ => cases hb
    | tup h1 r1 =>
      rename_i a xs ds
      have hb : inL d ds = some b := by
        cases d <;> exact hb
      unfold inL at hb
      split at hb
      · rename_i hf
        rw [Bool.and_eq_true] at hf
        cases hb
        refine op_in_seq pins s σ H _ _ v u Q I rx ry ⟨a, xs, rfl, .inr (hz.sub.st h1), flat_rp rd hf.1, flat_all r1 hf.2, ?_⟩
        rw [inV_eq rd hf.1 r1 hf.2]
        exact done0 hz q (.bl _)
      · split at hb
        · rename_i hf
          rw [Bool.and_eq_true] at hf
          cases hb
          exact (in_deep hu I hz rx ry rd (.inl h1) r1 hf.1 hf.2).1 (done0 hz q (.bl _))
        · cases hb
    | lst h1 r1 =>
      rename_i a xs ds
      have hb : inL d ds = some b := by
        cases d <;> exact hb
      unfold inL at hb
      split at hb
      · rename_i hf
        rw [Bool.and_eq_true] at hf
        cases hb
        refine op_in_seq pins s σ H _ _ v u Q I rx ry ⟨a, xs, rfl, .inl (SqL.of (hz.sub _ _ h1)), flat_rp rd hf.1, flat_all r1 hf.2, ?_⟩
        rw [inV_eq rd hf.1 r1 hf.2]
        exact done0 hz q (.bl _)
      · split at hb
        · rename_i hf
          rw [Bool.and_eq_true] at hf
          cases hb
          exact (in_deep hu I hz rx ry rd (.inr h1) r1 hf.1 hf.2).1 (done0 hz q (.bl _))
        · cases hb
    | _ => cases rd <;> cases hb
end
end DN
namespace DN
open PySem PySem.Spec PyProof.Rows L2
open LamX (Tabs ExtN)

/-! ### statements -/
inductive SR where
  | nx (ρ : Rho) | rt (d : D) | bk (ρ : Rho) | ct (ρ : Rho) | ex (n : Str) (ρ : Rho) | bad
def bindS {α : Type} (r : Res α) (ρ : Rho) (k : α → SR) : SR := match r with
  | .ok a => k a
  | .ex n => .ex n ρ
  | .bad => .bad
/-- the frame's own objects are new since the entry -/
def Ow (H0 : Hp) (σ : L2.St) (ρ : Rho) : Prop := ∀ (i : Nat) (d : D) (p : Addr), ρ[i]? = some (En.o d) → σ[i]? = some (some (V.ref p)) → ∀ o, H0 p = some o → ∃ ps, o = .tbl ps
structure Sg (K : PySem.W.Frag) (T : List (Addr × Str)) (F0 H0 F H : Hp) (σ : L2.St) (ρ : Rho) : Prop where
  at_ : At K T F H σ ρ
  nx : Nx T F0 H0 F H
  ow : Ow H0 σ ρ
def aftS (K : PySem.W.Frag) (T : List (Addr × Str)) (W : WX) (F0 H0 F : Hp) (Z : Ends) : SR → Prop
  | .nx ρ => ∀ σ F' H', Sg K T F0 H0 F' H' σ ρ → Sub F F' → Z.nx σ H'
  | .bk ρ => ∀ σ F' H', Sg K T F0 H0 F' H' σ ρ → Sub F F' → Z.bk σ H'
  | .ct ρ => ∀ σ F' H', Sg K T F0 H0 F' H' σ ρ → Sub F F' → Z.ct σ H'
  | .rt d => ∀ v F' H', Nx T F0 H0 F' H' → Rp K F' v d → Z.rt v H'
  | .ex n ρ => ∀ σ F' H', Sg K T F0 H0 F' H' σ ρ → Sub F F' → W (.ref (He.ga K n)) none σ H'
  | .bad => False
def tS (K : PySem.W.Frag) (T : List (Addr × Str)) (W : WX) (F0 H0 : Hp) (s : Rho → SR) : TS := fun Z σ H => ∃ ρ F, Sg K T F0 H0 F H σ ρ ∧ aftS K T W F0 H0 F Z (s ρ)
abbrev DS (X : Cx) (T : List (Addr × Str)) (W : WX) (F0 H0 : Hp) (st : Stmt) (s : Rho → SR) : Prop := PS X st (tS X.K T W F0 H0 s)
abbrev DSs (X : Cx) (T : List (Addr × Str)) (W : WX) (F0 H0 : Hp) (st : List Stmt) (s : Rho → SR) : Prop := PSs X st (tS X.K T W F0 H0 s)
section
variable {K : PySem.W.Frag} {T : List (Addr × Str)} {W : WX} {F0 H0 F H F1 H1 : Hp} {σ : L2.St} {ρ : Rho} {Z : Ends}
theorem Sg.step (g : Sg K T F0 H0 F H σ ρ) (n : Nx T F H F1 H1) : Sg K T F0 H0 F1 H1 σ ρ := ⟨g.at_.nx n, g.nx.trans n, g.ow⟩
theorem aftS.mono {r : SR} (e : Sub F F1) (h : aftS K T W F0 H0 F Z r) : aftS K T W F0 H0 F1 Z r := by
  cases r with
  | nx ρ => exact fun σ F' H' g s => h σ F' H' g (e.trans s)
  | bk ρ => exact fun σ F' H' g s => h σ F' H' g (e.trans s)
  | ct ρ => exact fun σ F' H' g s => h σ F' H' g (e.trans s)
  | ex n ρ => exact fun σ F' H' g s => h σ F' H' g (e.trans s)
  | rt d => exact h
  | bad => exact h
theorem aftS.bind {α β : Type} {R : Hp → α → β → Prop} {r : Res β} {k : β → SR} (g : Sg K T F0 H0 F H σ ρ) (h : aftS K T W F0 H0 F Z (bindS r ρ k)) :
    aft R K T W σ F H (fun a H1 => ∃ b F1, r = .ok b ∧ Nx T F H F1 H1 ∧ Sg K T F0 H0 F1 H1 σ ρ ∧ R F1 a b ∧ aftS K T W F0 H0 F1 Z (k b)) r := by
  cases r with
  | ok b => exact fun a F2 H2 n ra => ⟨b, F2, rfl, n, g.step n, ra, aftS.mono n.f h⟩
  | ex m => exact fun F' H' n => h σ F' H' (g.step n) n.f
  | bad => exact h
theorem Ow.set {i : Nat} {v : V} {d : D} (o : Ow H0 σ ρ) : Ow H0 (σ.set i (some v)) (ρ.set i (.z d)) := fun j e p h1 h2 => by
  rw [List.getElem?_set] at h1 h2
  by_cases hij : i = j
  · rw [if_pos hij] at h1
    split at h1 <;> cases h1
  · rw [if_neg hij] at h1 h2
    exact o j e p h1 h2
end
def sskip : Rho → SR := fun ρ => .nx ρ
def sseq (s t : Rho → SR) : Rho → SR := fun ρ => match s ρ with
  | .nx ρ' => t ρ'
  | r => r
def sret (f : Rho → Res D) : Rho → SR := fun ρ => bindS (f ρ) ρ .rt
def sif (c : Rho → Res Bool) (s t : Rho → SR) : Rho → SR := fun ρ => bindS (c ρ) ρ fun b => if b = true then s ρ else t ρ
/-- targets -/
abbrev Tg := Rho → D → Option Rho
abbrev Tgs := Rho → List D → Option Rho
def gn (i : Nat) : Tg := fun ρ d => some (ρ.set i (.z d))
def gsn : Tgs := fun ρ ds => match ds with
  | [] => some ρ
  | _ => none
def gsc (g : Tg) (h : Tgs) : Tgs := fun ρ ds => match ds with
  | d :: r => (g ρ d).bind fun ρ' => h ρ' r
  | [] => none
def gt (n : Nat) (h : Tgs) : Tg := fun ρ d => match d with
  | .tup ds => if ds.length = n then h ρ ds else none
  | .lst ds => if ds.length = n then h ρ ds else none
  | _ => none
def sasg (f : Rho → Res D) (g : Tg) : Rho → SR := fun ρ => bindS (f ρ) ρ fun d => match g ρ d with
  | some ρ' => .nx ρ'
  | none => .bad
def tGd (K : PySem.W.Frag) (T : List (Addr × Str)) (g : Tg) : TG := fun v σ H Q => ∃ ρ F d ρ', At K T F H σ ρ ∧ Rp K F v d ∧ g ρ d = some ρ' ∧ ∀ σ', At K T F H σ' ρ' → (∀ H0, Ow H0 σ ρ → Ow H0 σ' ρ') → Q σ' H
def tGs (K : PySem.W.Frag) (T : List (Addr × Str)) (g : Tgs) : TGs := fun vs σ H Q => ∃ ρ F ds ρ', At K T F H σ ρ ∧ RpAll K F vs ds ∧ g ρ ds = some ρ' ∧ ∀ σ', At K T F H σ' ρ' → (∀ H0, Ow H0 σ ρ → Ow H0 σ' ρ') → Q σ' H
theorem _root_.L2.PG.to {X : Cx} {e : Expr} {t u : TG} (h : PG X e t) (k : ∀ v σ H Q, u v σ H Q → t v σ H Q) : PG X e u := ⟨fun pins s σ H v w Q I r q => h.run pins s σ H v w Q I r (k v σ H Q q)⟩
theorem _root_.L2.PG.or {X : Cx} {e : Expr} {t u : TG} (h : PG X e t) (h2 : PG X e u) : PG X e (fun v σ H Q => t v σ H Q ∨ u v σ H Q) := ⟨fun pins s σ H v w Q I r q => q.elim (h.run pins s σ H v w Q I r) (h2.run pins s σ H v w Q I r)⟩
theorem _root_.L2.PGs.to {X : Cx} {es : List Expr} {t u : TGs} (h : PGs X es t) (k : ∀ v σ H Q, u v σ H Q → t v σ H Q) : PGs X es u := ⟨fun pins s σ H v w Q I r q => h.run pins s σ H v w Q I r (k v σ H Q q)⟩
section
variable {X : Cx} {T : List (Addr × Str)} {W : WX} {F0 H0 : Hp}
abbrev DG (X : Cx) (T : List (Addr × Str)) (e : Expr) (g : Tg) : Prop := PG X e (tGd X.K T g)
abbrev DGs (X : Cx) (T : List (Addr × Str)) (es : List Expr) (g : Tgs) : Prop := PGs X es (tGs X.K T g)
theorem g_name {i : Nat} {e : Expr} (h : PG X e (gName i)) : DG X T e (gn i) := h.to fun v σ H Q ⟨ρ, F, d, ρ', a, r, hg, q⟩ => by
  cases hg
  exact q _ ⟨a.z, a.t, a.r.set r⟩ fun H0 o => o.set
theorem gs_nil : DGs X T [] gsn := pgs_nil.to fun v σ H Q ⟨ρ, F, d, ρ', a, r, hg, q⟩ => by
  cases d with
  | nil =>
    cases r
    cases hg
    exact ⟨rfl, q σ a fun _ o => o⟩
  | cons _ _ => cases hg
theorem gs_cons {e : Expr} {es : List Expr} {g : Tg} {h : Tgs} (h1 : DG X T e g) (h2 : DGs X T es h) (hs : (assignEach (e :: es) X.env).map (·.2) = assign e X.env :: (assignEach es X.env).map (·.2) := by rfl) : DGs X T (e :: es) (gsc g h) :=
  (pgs_cons h1 h2 hs).to fun v σ H Q ⟨ρ, F, d, ρ', a, r, hg, q⟩ => by
    cases d with
    | nil => cases hg
    | cons d ds =>
      cases r with
      | cons r1 r2 =>
        have hg : (g ρ d).bind (fun ρ' => h ρ' ds) = some ρ' := hg
        cases e1 : g ρ d with
        | none => rw [e1] at hg; cases hg
        | some ρ1 =>
          rw [e1] at hg
          have hg : h ρ1 ds = some ρ' := hg
          refine ⟨_, _, rfl, ρ, F, d, ρ1, a, r1, e1, fun σ1 a1 o1 => ?_⟩
          exact ⟨ρ1, F, ds, ρ', a1, r2, hg, fun σ2 a2 o2 => q σ2 a2 fun H0 o => o2 H0 (o1 H0 o)⟩
theorem g_tup {es : List Expr} {k : Nat} {pos : Pos} {h : Tgs} {n : Nat} (hc : X.calm = true) (h1 : DGs X T es h) (hn : (assignEach es X.env).length = n := by rfl) (hst : (assignEach es X.env).findIdx? (·.1) = none := by rfl) : DG X T (.Tuple es k pos) (gt n h) :=
  (PG.or (pg_tup hc h1 hn hst) (pg_unl hc h1 hn hst)).to fun v σ H Q ⟨ρ, F, d, ρ', a, r, hg, q⟩ => by
    cases r with
    | @tup ad xs ds h1 r1 =>
      have hg : (if ds.length = n then h ρ ds else none) = some ρ' := hg
      split at hg
      · rename_i hl
        exact .inl ⟨ad, xs, rfl, a.z.sub.st h1, by rw [r1.length]; exact hl, ρ, F, ds, ρ', a, r1, hg, q⟩
      · cases hg
    | @lst ad xs ds h1 r1 =>
      have hg : (if ds.length = n then h ρ ds else none) = some ρ' := hg
      split at hg
      · rename_i hl
        exact .inr ⟨ad, xs, rfl, SqL.of (a.z.sub _ _ h1), by rw [r1.length]; exact hl, ρ, F, ds, ρ', a, r1, hg, q⟩
      · cases hg
    | _ => cases hg
theorem s_nil : DSs X T W F0 H0 [] sskip := pss_nil.to fun Z σ H ⟨ρ, F, g, h⟩ => h σ F H g (Sub.refl F)
theorem s_one {st : Stmt} {s : Rho → SR} (h : DS X T W F0 H0 st s) : DSs X T W F0 H0 [st] s := pss_one h
theorem s_cons {st : Stmt} {rest : List Stmt} {s t : Rho → SR} (h : DS X T W F0 H0 st s) (h2 : DSs X T W F0 H0 rest t) : DSs X T W F0 H0 (st :: rest) (sseq s t) :=
  (pss_cons h h2).to fun Z σ H ⟨ρ, F, g, h⟩ => by
    refine ⟨ρ, F, g, ?_⟩
    unfold sseq at h
    cases e : s ρ with
    | nx ρ' =>
      rw [e] at h
      exact fun σ' F' H' g' sb => ⟨ρ', F', g', aftS.mono sb h⟩
    | bk ρ' => rw [e] at h; exact h
    | ct ρ' => rw [e] at h; exact h
    | rt d => rw [e] at h; exact h
    | ex n ρ' => rw [e] at h; exact h
    | bad => rw [e] at h; exact h
theorem s_ret {e : Expr} {pos : Pos} {f : Rho → Res D} (h : DE X T W e f) : DS X T W F0 H0 (.Return (some e) pos) (sret f) :=
  (ps_ret h).to fun Z σ H ⟨ρ, F, g, h⟩ => by
    refine ⟨ρ, F, g.at_, (aftS.bind (R := Rp X.K) g h).imp fun d _ v F1 H1 _ _ q => ?_⟩
    obtain ⟨b, F2, _, n, g2, rv, q⟩ := q
    exact q v F2 H1 g2.nx rv
theorem s_if {c : Expr} {a b : List Stmt} {pos : Pos} {f : Rho → Res Bool} {s t : Rho → SR} (hc : DQ X T W c f) (ha : DSs X T W F0 H0 a s) (hb : DSs X T W F0 H0 b t) : DS X T W F0 H0 (.If c a b pos) (sif f s t) :=
  (ps_if hc ha hb).to fun Z σ H ⟨ρ, F, g, h⟩ => by
    refine ⟨ρ, F, g.at_, (aftS.bind (R := RBool) g h).imp fun d _ v F1 H1 _ _ q => ?_⟩
    obtain ⟨b, F2, _, n, g2, rv, q⟩ := q
    obtain rfl : v = b := rv
    cases v with
    | true => exact ⟨ρ, F2, g2, q⟩
    | false => exact ⟨ρ, F2, g2, q⟩
theorem sasg_to {f : Rho → Res D} {g : Tg} {K : PySem.W.Frag} {Z : Ends} {σ : L2.St} {H : Hp} (h : tS K T W F0 H0 (sasg f g) Z σ H) : tAsg (tE K T W f) (tGd K T g) Z σ H := by
  obtain ⟨ρ, F, gg, h⟩ := h
  refine ⟨ρ, F, gg.at_, (aftS.bind (R := Rp K) gg h).imp fun d _ v F1 H1 _ _ q => ?_⟩
  obtain ⟨b, F2, _, n, g2, rv, q⟩ := q
  cases e : g ρ b with
  | none => rw [e] at q; exact q.elim
  | some ρ' =>
    rw [e] at q
    exact ⟨ρ, F2, b, ρ', g2.at_, rv, e, fun σ' a' o' => q σ' F2 H1 ⟨a', g2.nx, o' H0 g2.ow⟩ (Sub.refl F2)⟩
theorem s_asg {tg e : Expr} {pos : Pos} {f : Rho → Res D} {g : Tg} (he : DE X T W e f) (hg : DG X T tg g) (hs : swapsWithSole [tg] e pos.line X.env = pure false := by rfl) (hw : swappedStores [tg] e X.env = pure none := by rfl)
    (h1 : (assignEach [tg] X.env).map (·.2) = [assign tg X.env] := by rfl) : DS X T W F0 H0 (.Assign [tg] e pos) (sasg f g) :=
  (ps_asg he hg hs hw h1).to fun Z σ H h => sasg_to h
end

/-! ### while -/
section
variable {X : Cx} {T : List (Addr × Str)} {W : WX} {F0 H0 : Hp}
end

/-! ### what is walked -/
/-- the walk J gives ds, while F is frozen -/
def Walks (K : PySem.W.Frag) (T : List (Addr × Str)) (F : Hp) (J : It) (ds : List D) : Prop :=
  ∀ (i : Nat) (F' H : Hp), Sub F F' → Fz F' H → (∀ d, ds[i]? = some d → J.go i H ∧ ∀ x H', J.yld i H x H' → ∃ F2, Nx T F' H F2 H' ∧ Rp K F2 x d) ∧ (ds.length ≤ i → J.stop i H)
def tI (K : PySem.W.Frag) (T : List (Addr × Str)) (W : WX) (f : Rho → Res (List D)) : TI := tG (fun K F J ds => Walks K T F J ds) K T W f
abbrev DI (X : Cx) (T : List (Addr × Str)) (W : WX) (tg iter : Expr) (f : Rho → Res (List D)) : Prop := PI X tg iter (tI X.K T W f)
theorem _root_.L2.PI.to {X : Cx} {tg e : Expr} {t u : TI} (h : PI X tg e t) (k : ∀ σ H R, u σ H R → t σ H R) : PI X tg e u := ⟨fun pins s σ H R I q => h.run pins s σ H R I (k σ H R q)⟩
theorem _root_.L2.PI.or {X : Cx} {tg e : Expr} {t u : TI} (h : PI X tg e t) (h2 : PI X tg e u) : PI X tg e (fun σ H R => t σ H R ∨ u σ H R) := ⟨fun pins s σ H R I q => q.elim (h.run pins s σ H R I) (h2.run pins s σ H R I)⟩
def loopD (g : Tg) (s : Rho → SR) : List D → Rho → SR
  | [], ρ => .nx ρ
  | d :: ds, ρ => match g ρ d with
    | none => .bad
    | some ρ1 => match s ρ1 with
      | .nx ρ' => loopD g s ds ρ'
      | .ct ρ' => loopD g s ds ρ'
      | .bk ρ' => .nx ρ'
      | r => r
def sfor (f : Rho → Res (List D)) (g : Tg) (s : Rho → SR) : Rho → SR := fun ρ => bindS (f ρ) ρ fun ds => loopD g s ds ρ
section
variable {X : Cx} {T : List (Addr × Str)} {W : WX} {F0 H0 : Hp}
theorem s_for {tg iter : Expr} {body : List Stmt} {pos : Pos} {f : Rho → Res (List D)} {g : Tg} {s : Rho → SR} (hp : PassesOwn (model X.prog X.w) X.A X.env X.xe) (hc : X.calm = true) (hi : DI X T W tg iter f) (hg : DG X T tg g) (hb : DSs X T W F0 H0 body s)
    (hs : ∀ x, foldedSetIterable iter X.env x = pure x := by intro _; rfl) : DS X T W F0 H0 (.For tg iter body [] pos) (sfor f g s) :=
  (ps_for hp hc hi hg hb hs).to fun Z σ H ⟨ρ, F, gg, h⟩ => by
    refine ⟨ρ, F, gg.at_, (aftS.bind (R := fun F J ds => Walks X.K T F J ds) gg h).imp fun d _ J F1 H1 _ _ q => ?_⟩
    obtain ⟨ds, F2, _, n, g2, wk, q⟩ := q
    refine ⟨fun i m σ H => m = ds.length - i ∧ i ≤ ds.length ∧ ∃ ρ F', Sg X.K T F0 H0 F' H σ ρ ∧ Sub F2 F' ∧ aftS X.K T W F0 H0 F' Z (loopD g s (ds.drop i) ρ), ⟨ds.length, by omega, by omega, ρ, F2, g2, Sub.refl F2, q⟩, ?_⟩
    rintro i m σ H ⟨rfl, hi, ρ, F3, g3, sb, q⟩
    obtain ⟨wg, ws⟩ := wk i F3 H sb g3.at_.z
    by_cases hlt : i < ds.length
    · have e : ds[i]? = some ds[i] := List.getElem?_eq_getElem hlt
      obtain ⟨go, yl⟩ := wg _ e
      refine .inr ⟨go, fun σ' H' => ∃ ρ' F', Sg X.K T F0 H0 F' H' σ' ρ' ∧ Sub F2 F' ∧ aftS X.K T W F0 H0 F' Z (loopD g s (ds.drop (i + 1)) ρ'), fun σ' H' w => ⟨ds.length - (i + 1), by omega, rfl, by omega, w⟩, fun x H' y => ?_⟩
      obtain ⟨F4, n4, rx⟩ := yl x H' y
      rw [List.drop_eq_getElem_cons hlt] at q
      have g4 := g3.step n4
      have q : aftS X.K T W F0 H0 F3 Z (match g ρ ds[i] with
        | none => .bad
        | some ρ1 => match s ρ1 with
          | .nx ρ' => loopD g s (ds.drop (i + 1)) ρ'
          | .ct ρ' => loopD g s (ds.drop (i + 1)) ρ'
          | .bk ρ' => .nx ρ'
          | r => r) := q
      cases eg : g ρ ds[i] with
      | none => rw [eg] at q; exact q.elim
      | some ρ1 =>
        rw [eg] at q
        have q : aftS X.K T W F0 H0 F3 Z (match s ρ1 with
          | .nx ρ' => loopD g s (ds.drop (i + 1)) ρ'
          | .ct ρ' => loopD g s (ds.drop (i + 1)) ρ'
          | .bk ρ' => .nx ρ'
          | r => r) := q
        refine ⟨ρ, F4, ds[i], ρ1, g4.at_, rx, eg, fun σ1 a1 o1 => ⟨ρ1, F4, ⟨a1, g4.nx, o1 H0 g4.ow⟩, ?_⟩⟩
        cases e2 : s ρ1 with
        | nx ρ' => rw [e2] at q; exact fun σ' F' H' g' sb' => ⟨ρ', F', g', (sb.trans n4.f).trans sb', aftS.mono (n4.f.trans sb') q⟩
        | ct ρ' => rw [e2] at q; exact fun σ' F' H' g' sb' => ⟨ρ', F', g', (sb.trans n4.f).trans sb', aftS.mono (n4.f.trans sb') q⟩
        | bk ρ' => rw [e2] at q; exact fun σ' F' H' g' sb' => q σ' F' H' g' (n4.f.trans sb')
        | rt d => rw [e2] at q; exact q
        | ex n ρ' => rw [e2] at q; exact fun σ' F' H' g' sb' => q σ' F' H' g' (n4.f.trans sb')
        | bad => rw [e2] at q; exact q
    · have e : i = ds.length := by omega
      subst e
      refine .inl ⟨ws (Nat.le_refl _), ?_⟩
      rw [List.drop_length] at q
      exact q σ F3 H g3 (Sub.refl F3)

/-! the walks -/
def itemsD : D → Res (List D)
  | .tup xs => .ok xs
  | .lst xs => .ok xs
  | .arr ns => .ok (ns.map .int)
  | .str x => .ok (x.cps.toList.map fun c => .str ⟨#[c]⟩)
  | _ => .bad
def its (f : Rho → Res D) : Rho → Res (List D) := fun ρ => (f ρ).bind itemsD
theorem walks_list {K : PySem.W.Frag} {F : Hp} {a : Addr} {xs : List V} {ds : List D} (h : SqL K F a xs) (r : RpAll K F xs ds) : Walks K T F (Itl K a) ds := fun i F' H sb z => by
  have hl : SqL K H a xs := (sb.trans z.sub).sl h
  refine ⟨fun d hd => ?_, fun hle => ⟨xs, hl, by rw [r.length]; exact hle⟩⟩
  obtain ⟨v, hv, rv⟩ := r.get hd
  refine ⟨⟨xs, v, hl, hv⟩, fun x H' y => ?_⟩
  obtain ⟨rfl, y⟩ := y
  have e := y xs hl
  rw [hv] at e
  cases e
  exact ⟨F', Nx.refl z, rv.mono sb⟩
theorem walks_tup {K : PySem.W.Frag} {F : Hp} {a : Addr} {xs : List V} {ds : List D} (h : SqT K F a xs) (r : RpAll K F xs ds) : Walks K T F (Itt K a) ds := fun i F' H sb z => by
  have hl : SqT K H a xs := (sb.trans z.sub).st h
  refine ⟨fun d hd => ?_, fun hle => ⟨xs, hl, by rw [r.length]; exact hle⟩⟩
  obtain ⟨v, hv, rv⟩ := r.get hd
  refine ⟨⟨xs, v, hl, hv⟩, fun x H' y => ?_⟩
  obtain ⟨rfl, y⟩ := y
  have e := y xs hl
  rw [hv] at e
  cases e
  exact ⟨F', Nx.refl z, rv.mono sb⟩
end
end DN
namespace DN
open PySem PySem.Spec PyProof.Rows L2
open LamX (Tabs ExtN)

/-! ### the walks of for and of comprehensions -/
section
variable {X : Cx} {T : List (Addr × Str)} {W : WX} {F0 H0 : Hp}
theorem walks_str {K : PySem.W.Frag} {F : Hp} {x : Str} : Walks K T F (Its x) (x.cps.toList.map fun c => D.str ⟨#[c]⟩) := fun i F' H sb z => by
  refine ⟨fun d hd => ?_, fun hle => ?_⟩
  · rw [List.getElem?_map] at hd
    cases e : x.cps.toList[i]? with
    | none => rw [e] at hd; cases hd
    | some c =>
      rw [e] at hd
      cases hd
      have hi : i < x.cps.size := by
        have := (List.getElem?_eq_some_iff.mp e).1
        simpa using this
      refine ⟨hi, fun v H' y => ?_⟩
      obtain ⟨rfl, c', hc', rfl⟩ := y
      have e2 : x.cps[i]? = some c := by simpa using e
      rw [e2] at hc'
      cases hc'
      exact ⟨F', Nx.refl z, .str _⟩
  · show x.cps.size ≤ i
    simpa using hle
theorem i_any {tg l : Expr} {f : Rho → Res D} (h : DE X T W l f) : DI X T W tg l (its f) :=
  ((pi_list h).or ((pi_tup h).or (pi_str h))).to fun σ H R ⟨ρ, F, a, h⟩ => by
    have h : aft (fun F J ds => Walks X.K T F J ds) X.K T W σ F H R ((f ρ).bind itemsD) := h
    cases e : f ρ with
    | bad => rw [e] at h; exact h.elim
    | ex n =>
      rw [e] at h
      exact .inl ⟨ρ, F, a, by rw [e]; exact h⟩
    | ok d =>
      rw [e] at h
      have h : aft (fun F J ds => Walks X.K T F J ds) X.K T W σ F H R (itemsD d) := h
      cases d with
      | lst ds =>
        refine .inl ⟨ρ, F, a, ?_⟩
        rw [e]
        intro v F' H' n r
        cases r with
        | lst h1 r1 => exact ⟨_, rfl, ⟨_, SqL.of (n.z.sub _ _ h1)⟩, h _ F' H' n (walks_list (SqL.of h1) r1)⟩
      | arr ns =>
        refine .inl ⟨ρ, F, a, ?_⟩
        rw [e]
        intro v F' H' n r
        cases r with
        | arr h1 => exact ⟨_, rfl, ⟨_, n.z.sub.sl h1⟩, h _ F' H' n (walks_list h1 (RpAll.ints ns))⟩
      | tup ds =>
        refine .inr (.inl ⟨ρ, F, a, ?_⟩)
        rw [e]
        intro v F' H' n r
        cases r with
        | tup h1 r1 => exact ⟨_, rfl, ⟨_, n.z.sub.st h1⟩, h _ F' H' n (walks_tup h1 r1)⟩
      | str x =>
        refine .inr (.inr ⟨ρ, F, a, ?_⟩)
        rw [e]
        intro v F' H' n r
        cases r
        exact ⟨x, rfl, h _ F' H' n walks_str⟩
      | _ => exact h.elim
def rngD (lo : Int) (n : Nat) : List D := (List.range n).map fun (i : Nat) => D.int (lo + (i : Int))
theorem walks_rng {K : PySem.W.Frag} {F : Hp} {lo : Int} {n : Nat} : Walks K T F (Itr lo n) (rngD lo n) := fun i F' H sb z => by
  refine ⟨fun d hd => ?_, fun hle => ?_⟩
  · unfold rngD at hd
    rw [List.getElem?_map] at hd
    cases e : (List.range n)[i]? with
    | none => rw [e] at hd; cases hd
    | some j =>
      rw [e] at hd
      cases hd
      obtain ⟨h1, h2⟩ := List.getElem?_eq_some_iff.mp e
      rw [List.getElem_range] at h2
      rw [List.length_range] at h1
      subst h2
      refine ⟨h1, fun v H' y => ?_⟩
      obtain ⟨rfl, rfl⟩ := y
      exact ⟨F', Nx.refl z, .int _⟩
  · unfold rngD at hle
    rw [List.length_map, List.length_range] at hle
    exact hle
def rng1 (f : Rho → Res (List D)) : Rho → Res (List D) := fun ρ => (f ρ).bind fun ds => match ds with
  | [.int j] => if -(2 ^ 62) ≤ j ∧ j < 2 ^ 62 then .ok (rngD 0 j.toNat) else .bad
  | _ => .bad
theorem i_rng1 {tg a : Expr} {p pos : Pos} {f : Rho → Res (List D)} (hg : Gl X "range") (hm : X.mg "range" = none) (ha : DA X T W [a] f) (hs : starEach [a] X.env = [(false, eval a X.env)] := by rfl) : DI X T W tg (.Call (.Name "range" p) [a] [] pos) (rng1 f) :=
  (pi_range1 hg hm ha hs).to fun σ H R ⟨ρ, F, a, h⟩ => by
    refine ⟨ρ, F, a, (aft.bind (R := RpAll X.K) h).imp fun d _ v F1 H1 _ _ q => ?_⟩
    obtain ⟨ds, F2, _, n, rv, q⟩ := q
    match ds, rv, q with
    | [.int j], .cons (.int _) .nil, q =>
      have q : aft (fun F J ds => Walks X.K T F J ds) X.K T W σ F2 H1 R (if -(2 ^ 62) ≤ j ∧ j < 2 ^ 62 then .ok (rngD 0 j.toNat) else .bad) := q
      split at q
      · rename_i hj
        exact ⟨j, rfl, hj.1, hj.2, q _ F2 H1 (Nx.refl n.z) walks_rng⟩
      · exact q.elim
end

/-! ### comprehensions -/
def wipeR (ρ : Rho) : List Nat → Rho
  | [] => ρ
  | v :: vs => (wipeR ρ vs).set v .u
def compD (g : Tg) (t : Rho → Res Bool) (e : Rho → Res D) (ρ : Rho) : List D → Res (List D)
  | [] => .ok []
  | d :: ds => match g ρ d with
    | none => .bad
    | some ρ1 => match t ρ1 with
      | .ok b => if b = true then (match e ρ1 with
        | .ok y => (compD g t e ρ ds).bind fun ys => .ok (y :: ys)
        | _ => .bad) else compD g t e ρ ds
      | _ => .bad
def lcD (f : Rho → Res (List D)) (i : Nat) (t : Rho → Res Bool) (e : Rho → Res D) : Rho → Res D := fun ρ => (f ρ).bind fun ds => if ds.length < sizeLine then (compD (gn i) t e (ρ.set i .u) ds).bind fun ys => .ok (.lst ys) else .bad
def yes : Rho → Res Bool := fun _ => .ok true
theorem tabs_upd {T : List (Addr × Str)} {H : Hp} {p : Addr} {xs : List V} {o : HO} (h : Tabs T H) (e : H p = some (.lst xs)) : Tabs T (upd H p o) := fun q hq => by
  obtain ⟨ps, h1, h2, h3⟩ := h q hq
  refine ⟨ps, ?_, h2, fun pos cv hc => ?_⟩
  · rw [upd_ne fun z => by rw [z, e] at h1; cases h1]; exact h1
  · obtain ⟨c, e1, e2⟩ := h3 pos cv hc
    refine ⟨c, e1, ?_⟩
    rw [upd_ne fun z => by rw [z, e] at e2; unfold LamX.CodeO at e2; cases e2]; exact e2
section
variable {X : Cx} {T : List (Addr × Str)} {W : WX} {F0 H0 : Hp}
abbrev W0 : WX := fun _ _ _ _ => False
theorem no_ex {α β : Type} {R : Hp → α → β → Prop} {K : PySem.W.Frag} {σ : L2.St} {F H : Hp} {Q : α → Hp → Prop} {r : Res β} (z : Fz F H) {b : β} (e : r = .ok b) (h : ∀ a F' H', Nx T F H F' H' → R F' a b → Q a H') : aft R K T W0 σ F H Q r := by
  rw [e]; exact h
theorem lc_to {K : PySem.W.Frag} {f : Rho → Res (List D)} {i : Nat} {t : Rho → Res Bool} {e : Rho → Res D} {σ : L2.St} {H : Hp} {Q : VK} (h : tE K T W (lcD f i t e) σ H Q) :
    tLc (tI K T W f) (gName i) (tT K T W0 t) (tE K T W0 e) [i] σ H Q := by
  obtain ⟨ρ, F, a, h⟩ := h
  refine ⟨ρ, F, a, (aft.bind (R := fun F J ds => Walks K T F J ds) h).imp fun d _ J F1 H1 _ _ q => ?_⟩
  obtain ⟨ds, F2, _, n, wk, q⟩ := q
  have q : aft (Rp K) K T W σ F2 H1 Q (if ds.length < sizeLine then (compD (gn i) t e (ρ.set i .u) ds).bind fun ys => .ok (.lst ys) else .bad) := q
  split at q
  · rename_i hlen
    cases hc : compD (gn i) t e (ρ.set i .u) ds with
    | bad => rw [hc] at q; exact q.elim
    | ex m =>
      exfalso
      have : ∀ ds : List D, compD (gn i) t e (ρ.set i .u) ds ≠ .ex m := fun ds => by
        induction ds with
        | nil => intro z; cases z
        | cons d ds ih =>
          intro z
          unfold compD at z
          simp only [gn] at z
          split at z
          · split at z
            · split at z
              · cases e2 : compD (gn i) t e (ρ.set i .u) ds with
                | ok ys => rw [e2] at z; cases z
                | ex m' =>
                  rw [e2] at z
                  cases z
                  exact ih e2
                | bad => rw [e2] at z; cases z
              · cases z
            · exact ih z
          · cases z
      exact this ds hc
    | ok ys =>
      rw [hc] at q
      have a2 := a.nx n
      intro p hp
      -- behind k turns
      refine ⟨fun k m H => m = ds.length - k ∧ k ≤ ds.length ∧ ∃ F' acc dacc rest, Nx T F2 H1 F' H ∧ F' p = none ∧ H p = some (.lst acc) ∧ RpAll K F' acc dacc ∧ acc.length ≤ k ∧ compD (gn i) t e (ρ.set i .u) (ds.drop k) = .ok rest ∧ dacc ++ rest = ys,
        ⟨ds.length, by omega, by omega, F2, [], [], ys, Nx.lay n.z hp, ?_, upd_same, .nil, by simp, hc, rfl⟩, ?_⟩
      · cases z : F2 p with
        | none => rfl
        | some o =>
          have := n.z.sub _ _ z
          rw [hp] at this; cases this
      rintro k m H ⟨rfl, hk, F', acc, dacc, rest, nx, hFp, hHp, ra, la, hr, hy⟩
      obtain ⟨wg, ws⟩ := wk k F' H nx.f nx.z
      by_cases hlt : k < ds.length
      · obtain ⟨go, yl⟩ := wg _ (List.getElem?_eq_getElem hlt)
        rw [List.drop_eq_getElem_cons hlt] at hr
        unfold compD at hr
        simp only [gn] at hr
        refine .inr ⟨go, fun H => ∃ F' acc dacc rest, Nx T F2 H1 F' H ∧ F' p = none ∧ H p = some (.lst acc) ∧ RpAll K F' acc dacc ∧ acc.length ≤ k + 1 ∧ compD (gn i) t e (ρ.set i .u) (ds.drop (k + 1)) = .ok rest ∧ dacc ++ rest = ys, fun H' w => ⟨ds.length - (k + 1), by omega, rfl, by omega, w⟩, fun x H' y => ?_⟩
        obtain ⟨F3, n3, rx⟩ := yl x H' y
        have hp3 : H' p = some (.lst acc) := n3.keep hHp ntL
        have hf3 : F3 p = none := n3.out hHp ntL hFp
        have a3 : At K T F3 H' (σ.set i none) (ρ.set i .u) := ⟨n3.z, (nx.trans n3).tab a2.t, (a2.r.mono (nx.trans n3)).wipe1⟩
        have a4 : At K T F3 H' ((σ.set i none).set i (some x)) ((ρ.set i .u).set i (.z ds[k])) := ⟨a3.z, a3.t, a3.r.set rx⟩
        show wipe ((σ.set i none).set i (some x)) [i] = wipe σ [i] ∧ _
        refine ⟨?_, ?_⟩
        · show ((σ.set i none).set i (some x)).set i none = σ.set i none
          rw [List.set_set, List.set_set]
        · cases ht : t ((ρ.set i .u).set i (.z ds[k])) with
          | bad => rw [ht] at hr; cases hr
          | ex m => rw [ht] at hr; cases hr
          | ok b =>
            rw [ht] at hr
            refine ⟨_, F3, a4, no_ex a4.z ht fun b' F4 H4 n4 rb => ?_⟩
            obtain rfl : b' = b := rb
            cases b' with
            | false =>
              show ∃ F' acc dacc rest, _
              have hr : compD (gn i) t e (ρ.set i .u) (ds.drop (k + 1)) = .ok rest := hr
              exact ⟨F4, acc, dacc, rest, (nx.trans n3).trans n4, n4.out hp3 ntL hf3, n4.keep hp3 ntL, ra.mono (n3.trans n4).f, by omega, hr, hy⟩
            | true =>
              have hr : (match e ((ρ.set i .u).set i (.z ds[k])) with
                | .ok y => (compD (gn i) t e (ρ.set i .u) (ds.drop (k + 1))).bind fun ys => .ok (y :: ys)
                | _ => .bad) = .ok rest := hr
              cases he : e ((ρ.set i .u).set i (.z ds[k])) with
              | bad => rw [he] at hr; cases hr
              | ex m => rw [he] at hr; cases hr
              | ok y =>
                rw [he] at hr
                have hr : (compD (gn i) t e (ρ.set i .u) (ds.drop (k + 1))).bind (fun ys => .ok (y :: ys)) = .ok rest := hr
                cases hr2 : compD (gn i) t e (ρ.set i .u) (ds.drop (k + 1)) with
                | bad => rw [hr2] at hr; cases hr
                | ex m => rw [hr2] at hr; cases hr
                | ok rest' =>
                  rw [hr2] at hr
                  cases hr
                  show tE K T W0 e _ H4 _
                  refine ⟨_, F4, a4.nx n4, no_ex n4.z he fun v F5 H5 n5 rv => ?_⟩
                  have hp5 : H5 p = some (.lst acc) := (n4.trans n5).keep hp3 ntL
                  have hf5 : F5 p = none := (n4.trans n5).out hp3 ntL hf3
                  have n6 := (nx.trans n3).trans (n4.trans n5)
                  refine ⟨acc, hp5, by omega, F5, acc ++ [v], dacc ++ [y], rest', ⟨n6.f, ⟨fun b o eb => ?_, n6.z.nt⟩, fun b o eb no => ?_, n6.new, fun tb => tabs_upd (n6.tab tb) hp5⟩, hf5, upd_same, ?_, by rw [List.length_append]; simp; omega, rfl, by rw [List.append_assoc]; exact hy⟩
                  · rw [upd_ne fun z => by rw [z, hf5] at eb; cases eb]
                    exact n6.z.sub _ _ eb
                  · rw [upd_ne fun z => by rw [z, hp] at eb; cases eb]
                    exact n6.h _ _ eb no
                  · exact (ra.mono ((n3.trans n4).trans n5).f).append (.cons rv .nil)
      · have ek : k = ds.length := by omega
        subst ek
        refine .inl ⟨ws (Nat.le_refl _), ?_⟩
        rw [List.drop_length] at hr
        cases hr
        rw [List.append_nil] at hy
        subst hy
        refine q (.ref p) (upd F' p (.lst acc)) H ⟨fun b o eb => ?_, ⟨fun b o eb => ?_, fun b ps eb => ?_⟩, nx.h, fun b o eb => ?_, nx.tab⟩ (.lst upd_same (ra.mono fun b o eb => ?_))
        · rw [upd_ne fun z => by rw [z] at eb; rw [nx.f _ _ eb] at hFp; cases hFp]
          exact nx.f _ _ eb
        · by_cases hb : b = p
          · subst hb; rw [upd_same] at eb; rw [← eb]; exact hHp
          · rw [upd_ne hb] at eb; exact nx.z.sub _ _ eb
        · by_cases hb : b = p
          · subst hb; rw [upd_same] at eb; cases eb
          · rw [upd_ne hb] at eb; exact nx.z.nt _ _ eb
        · by_cases hb : b = p
          · subst hb
            exact .inr fun o' e' => by rw [hp] at e'; cases e'
          · rw [upd_ne hb] at eb; exact nx.new _ _ eb
        · rw [upd_ne fun z => by rw [z, hFp] at eb; cases eb]; exact eb
  · exact q.elim
theorem ts_nil : PTs X [] (tT X.K T W yes) := ⟨fun pins s σ H Q I ⟨ρ, F, a, h⟩ => pts_nil.run pins s σ H Q I (h true F H (Nx.refl a.z) rfl)⟩
theorem ts_one {c : Expr} {f : Rho → Res Bool} (h : DQ X T W c f) : PTs X [c] (tT X.K T W f) := pts_one h
theorem e_lc {elt tg iter : Expr} {ifs : List Expr} {scope : Scope} {x : Str} {i : Nat} {pos : Pos} {f : Rho → Res (List D)} {t : Rho → Res Bool} {e : Rho → Res D} (hc : X.calm = true) (hN : X.N.Nodup) (hi : DI X T W tg iter f) (ok : BlkOk X.N X.env.scope scope [(x, i)])
    (hg : ∀ (s : Shared) (H : Hp) (C : Addr) (cl : List (Str × Addr)) (fp : List Addr), PG (X.blk s H scope (compEnvC scope cl C X.env) fp) tg (gName i))
    (ht : ∀ (s : Shared) (H : Hp) (C : Addr) (cl : List (Str × Addr)) (fp : List Addr), PTs (X.blk s H scope (compEnvC scope cl C X.env) fp) ifs (tT X.K T W0 t))
    (he : ∀ (s : Shared) (H : Hp) (C : Addr) (cl : List (Str × Addr)) (fp : List Addr), DE (X.blk s H scope (compEnvC scope cl C X.env) fp) T W0 elt e) (hs : ∀ x, foldedSetIterable iter X.env x = pure x := by intro _; rfl) :
    DE X T W (.ListComp elt [⟨tg, iter, ifs, 0⟩] scope pos) (lcD f i t e) :=
  (pe_lc (own := [(x, i)]) hc hN hi ok hg ht he hs).to fun _ _ _ h => lc_to h
theorem s_setLc {j : Nat} {y : Str} {py : Pos} {elt tg iter : Expr} {ifs : List Expr} {scope : Scope} {x : Str} {i : Nat} {pos spos : Pos} {f : Rho → Res (List D)} {t : Rho → Res Bool} {e : Rho → Res D} (hc : X.calm = true) (hN : X.N.Nodup) (hy : X.N[j]? = some y) (hyl : X.env.scope.names.lookup y = some .local)
    (hsw : swapsWith (.ListComp elt [⟨tg, iter, ifs, 0⟩] scope pos) (some (.Name y py)) spos.line X.env = pure true) (hi : DI X T W tg iter f) (ok : BlkOk X.N X.env.scope scope [(x, i)])
    (hg : ∀ (s : Shared) (H : Hp) (C : Addr) (cl : List (Str × Addr)) (fp : List Addr), PG (X.blk s H scope (compEnvC scope cl C X.env) fp) tg (gName i))
    (ht : ∀ (s : Shared) (H : Hp) (C : Addr) (cl : List (Str × Addr)) (fp : List Addr), PTs (X.blk s H scope (compEnvC scope cl C X.env) fp) ifs (tT X.K T W0 t))
    (he : ∀ (s : Shared) (H : Hp) (C : Addr) (cl : List (Str × Addr)) (fp : List Addr), DE (X.blk s H scope (compEnvC scope cl C X.env) fp) T W0 elt e) (hs : ∀ x, foldedSetIterable iter X.env x = pure x := by intro _; rfl) :
    DS X T W F0 H0 (.Assign [.Name y py] (.ListComp elt [⟨tg, iter, ifs, 0⟩] scope pos) spos) (sasg (lcD f i t e) (gn j)) :=
  (ps_setLc (own := [(x, i)]) hc hN hy hyl hsw hi ok hg ht he hs).to fun Z σ H h => by
    have h2 := sasg_to h
    obtain ⟨ρ, F, a, h2⟩ := h2
    refine lc_to ⟨ρ, F, a, h2.imp fun d _ v F1 H1 n r q => ?_⟩
    obtain ⟨ρ2, F2, d2, ρ3, a2, r2, hg2, q⟩ := q
    cases hg2
    exact q _ ⟨a2.z, a2.t, a2.r.set r2⟩ fun H0 o => o.set
end

/-! ### defs -/
def startR (n : Nat) (ds : List D) : Rho := ds.map En.z ++ List.replicate (n - ds.length) .u
def runB (n : Nat) (s : Rho → SR) (ds : List D) : Res D := match s (startR n ds) with
  | .nx _ => .ok .non
  | .rt d => .ok d
  | .ex m _ => .ex m
  | _ => .bad
abbrev WofE (E : XK) : WX := fun cls d _ H => E cls d H
def spD (K : PySem.W.Frag) (T : List (Addr × Str)) (n : Nat) (den : List D → Res D) : Sp := fun vs H Q E => ∃ F ds, Fz F H ∧ Tabs T H ∧ RpAll K F vs ds ∧ ds.length = n ∧ aft (Rp K) K T (WofE E) [] F H Q (den ds)
def callD (n : Nat) (den : List D → Res D) (f : Rho → Res (List D)) : Rho → Res D := fun ρ => (f ρ).bind fun ds => if ds.length = n then den ds else .bad
theorem Rl.start {K : PySem.W.Frag} {F H : Hp} {vs : List V} {ds : List D} {N : List Str} (r : RpAll K F vs ds) : Rl K F H (L2.start N vs) (startR N.length ds) := by
  have hl := r.length
  have key : ∀ (i : Nat) (en : En), (startR N.length ds)[i]? = some en → (∃ d, ds[i]? = some d ∧ en = .z d) ∨ en = .u := fun i en h => by
    unfold startR at h
    rw [List.getElem?_append] at h
    split at h
    · rw [List.getElem?_map] at h
      cases e : ds[i]? with
      | none => rw [e] at h; cases h
      | some d => rw [e] at h; cases h; exact .inl ⟨d, rfl, rfl⟩
    · rw [List.getElem?_replicate] at h
      split at h
      · cases h; exact .inr rfl
      · cases h
  refine ⟨?_, fun i d h => ?_, fun i d h => ?_, fun i j d e p q _ h => ?_⟩
  · unfold L2.start startR
    simp [hl]
  · rcases key i _ h with ⟨d', e, z⟩ | z
    · cases z
      obtain ⟨v, hv, rv⟩ := r.get e
      refine ⟨v, ?_, rv⟩
      unfold L2.start
      rw [List.getElem?_append_left (by rw [List.length_map]; exact (List.getElem?_eq_some_iff.mp hv).1), List.getElem?_map, hv]
      rfl
    · cases z
  · rcases key i _ h with ⟨d', e, z⟩ | z <;> cases z
  · rcases key i _ h with ⟨d', e, z⟩ | z <;> cases z
structure OkD (P : Program) (w : World) (K : PySem.W.Frag) (mg : Str → Option Value) (base : Heap) (T : List (Addr × Str)) (k : Nat) (x : Str) (n : Nat) (den : List D → Res D) : Prop where
  ex : ∃ fd ps, FnOk P w K mg base (L2.CX P w) k (He.ga K x) fd ps (spD K T n den) ∧ Binds K fd ps []
  kp : PySem.W.keepIn K (.ref (He.ga K x)) = true
  mg : mg x = some (.ref (He.ga K x))
theorem fn_ok {P : Program} {w : World} {K : PySem.W.Frag} {mg : Str → Option Value} {base : Heap} {T : List (Addr × Str)} {k : Nat} {x qual : Str} {params : Arguments} {body : List Stmt} {scope : Scope} {kws : List (Str × V)} {f : Addr} {fd : FuncData} {N ps : List Str} {n : Nat} {s : Rho → SR}
    (Fd : FunD K x qual params body scope [] kws f fd) (S : FnScope N ps scope) (hn : ps.length = n)
    (hb : ∀ (cdv : Value) (A : Around) (outer : List Env) (s0 : Shared) (H0 : Hp) (E : XK) (F0 : Hp), Room k (A.deeper (envOfC qual scope s0.heap.objs.size f cdv)) → DSs (cxOf (L2.CX P w) P w K mg base N qual scope f cdv A outer s0 H0 E) T (WofE E) F0 H0 body s) :
    FnOk P w K mg base (L2.CX P w) (k + 1) f fd ps (spD K T n (runB N.length s)) := by
  refine Fd.ok S (fun vs H Q E h => ?_) fun cdv A outer s0 H vs Q E hr h => ?_
  · obtain ⟨F, ds, _, _, r, hl, _⟩ := h
    rw [r.length, hl, hn]
  · obtain ⟨F, ds, z, tb, r, hl, h⟩ := h
    refine ⟨_, hb cdv A outer s0 H E F hr, startR N.length ds, F, ⟨⟨z, tb, Rl.start r⟩, Nx.refl z, fun i d p h1 => ?_⟩, ?_⟩
    · exfalso
      have o := (Rl.start (K := K) (F := F) (H := H) (N := N) r)
      unfold startR at h1
      rw [List.getElem?_append] at h1
      split at h1
      · rw [List.getElem?_map] at h1
        cases e : ds[i]? with
        | none => rw [e] at h1; cases h1
        | some d => rw [e] at h1; cases h1
      · rw [List.getElem?_replicate] at h1
        split at h1 <;> cases h1
    · unfold runB at h
      cases e : s (startR N.length ds) with
      | nx ρ => rw [e] at h; exact fun σ F' H' g _ => h .non F' H' g.nx .non
      | rt d => rw [e] at h; exact fun v F' H' nx rv => h v F' H' nx rv
      | ex m ρ => rw [e] at h; exact fun σ F' H' g _ => h F' H' g.nx
      | bk ρ => rw [e] at h; exact h.elim
      | ct ρ => rw [e] at h; exact h.elim
      | bad => rw [e] at h; exact h.elim
section
variable {X : Cx} {T : List (Addr × Str)} {W : WX} {F0 H0 : Hp}
theorem call_to {K : PySem.W.Frag} {n : Nat} {den : List D → Res D} {f : Rho → Res (List D)} {σ : L2.St} {H : Hp} {Q : VK} (h : tE K T W (callD n den f) σ H Q) : tCallS (spD K T n den) (WE W) (tA K T W f) σ H Q := by
  obtain ⟨ρ, F, a, h⟩ := h
  refine ⟨ρ, F, a, (aft.bind (R := RpAll K) h).imp fun d _ v F1 H1 _ _ q => ?_⟩
  obtain ⟨b, F2, _, nx, rv, q⟩ := q
  have q : aft (Rp K) K T W σ F2 H1 Q (if b.length = n then den b else .bad) := q
  split at q
  · rename_i hl
    refine ⟨F2, b, nx.z, nx.tab a.t, rv, hl, ?_⟩
    cases e : den b with
    | ok d => rw [e] at q; exact q
    | ex m => rw [e] at q; exact q
    | bad => rw [e] at q; exact q.elim
  · exact q.elim
theorem e_call {j k n : Nat} {x : Str} {den : List D → Res D} {e : Expr} {es : List Expr} {p pos : Pos} {f : Rho → Res (List D)} (O : OkD X.prog X.w X.K X.mg X.base T j x n den) (hr : Room k X.A) (tk : Takes X W) (hg : Gl X x) (ha : DA X T W (e :: es) f) (hj : j ≤ k := by decide)
    (hdb : (x == ("__debug__" : Str)) = false := by decide) (he : starEach (e :: es) X.env = (false, eval e X.env) :: starEach es X.env := by rfl) (hpl : (backTo pos (starEach es X.env)).any (·.1) = false := by rfl) :
    DE X T W (.Call (.Name x p) (e :: es) [] pos) (callD n den f) := by
  obtain ⟨fd, ps, G, b⟩ := O.ex
  exact (pe_callS (E := WE W) G (hr.mono hj) hg O.mg O.kp b (fun σ => passAt tk σ) ha hdb he hpl).to fun _ _ _ h => call_to h
def sraise (x : Str) : Rho → SR := fun ρ => .ex x ρ
end
end DN
namespace DN
open PySem PySem.Spec PyProof.Rows L2
open LamX (Tabs ExtN)

/-! ### the module's names -/
section
variable {X : Cx} {T : List (Addr × Str)} {W : WX}
theorem e_gint {x : Str} {i : Int} {pos : Pos} (h : ∃ t, X.mg x = some (.int i t)) (hg : Gl X x) (hd : (x == ("__debug__" : Str)) = false := by decide) : DE X T W (.Name x pos) (con (.int i)) := by
  obtain ⟨t, h⟩ := h
  exact e_c (pe_glob (v := .int i) hg h ⟨t, rfl⟩ hd) fun _ => .int i
theorem e_gstr {x z : Str} {pos : Pos} (h : ∃ t, X.mg x = some (.str z t)) (hg : Gl X x) (hd : (x == ("__debug__" : Str)) = false := by decide) : DE X T W (.Name x pos) (con (.str z)) := by
  obtain ⟨t, h⟩ := h
  exact e_c (pe_glob (v := .str z) hg h ⟨t, rfl⟩ hd) fun _ => .str z
theorem e_ty {x : Str} {n : String} {pos : Pos} (hm : X.mg x = none) (hv : bootBuiltins x = some (.type n)) (hg : Gl X x) (hn : x ≠ "__name__" := by decide) (hd : (x == ("__debug__" : Str)) = false := by decide) : DE X T W (.Name x pos) (con (.ty n)) :=
  e_c (pe_bltn (v := .ty n) hg hm hv rfl hn hd) fun F => .ty n
end
theorem bt_len : bootBuiltins "len" = some (.builtin "len") := by decide +kernel
theorem bt_isinstance : bootBuiltins "isinstance" = some (.builtin "isinstance") := by decide +kernel
theorem bt_all : bootBuiltins "all" = some (.builtin "all") := by decide +kernel
theorem bt_int : bootBuiltins "int" = some (.type "int") := by decide +kernel
theorem bt_str : bootBuiltins "str" = some (.type "str") := by decide +kernel
theorem bt_bool : bootBuiltins "bool" = some (.type "bool") := by decide +kernel
theorem bt_tuple : bootBuiltins "tuple" = some (.type "tuple") := by decide +kernel
theorem bt_list : bootBuiltins "list" = some (.type "list") := by decide +kernel

/-! ### the end -/
theorem start_arr {K : PySem.W.Frag} {H : Hp} {a : Addr} {ns : List Int} (h : SqL K H a (ns.map V.int)) : ∃ F, Fz F H ∧ Rp K F (.ref a) (.arr ns) := by
  rcases h with (h | ⟨o, h⟩) | h
  · refine ⟨fun b => if b = a then some (.lst (ns.map V.int)) else none, ⟨fun b o e => ?_, fun b ps e => ?_⟩, .arr (.inl (.inl (if_pos rfl)))⟩
    · by_cases hb : b = a
      · rw [if_pos hb] at e; rw [hb, h]; exact e
      · rw [if_neg hb] at e; cases e
    · by_cases hb : b = a
      · rw [if_pos hb] at e; cases e
      · rw [if_neg hb] at e; cases e
  · refine ⟨fun b => if b = a then some (.frz o (.lst (ns.map V.int))) else none, ⟨fun b o e => ?_, fun b ps e => ?_⟩, .arr (.inl (.inr ⟨o, if_pos rfl⟩))⟩
    · by_cases hb : b = a
      · rw [if_pos hb] at e; rw [hb, h]; exact e
      · rw [if_neg hb] at e; cases e
    · by_cases hb : b = a
      · rw [if_pos hb] at e; cases e
      · rw [if_neg hb] at e; cases e
  · exact ⟨fun _ => none, ⟨(fun b o e => nomatch e), (fun b ps e => nomatch e)⟩, .arr (.inr h)⟩
theorem law_sp {K : PySem.W.Frag} {T : List (Addr × Str)} {H : Hp} {a : Addr} {ns : List Int} {den : List D → Res D} (hT : Tabs T H) (h : SqL K H a (ns.map V.int)) (hd : den [.arr ns] = .ok (.bl true)) : spD K T 1 den [.ref a] H (fun v _ => v = .bl true) fun _ _ _ => False := by
  obtain ⟨F, z, r⟩ := start_arr h
  refine ⟨F, [.arr ns], z, hT, .cons r .nil, rfl, ?_⟩
  rw [hd]
  intro v F' H' n rv
  cases rv
  rfl
theorem cx_false {P : Program} {w : World} {l : List Env} {H : Hp} {s : Shared} {e : Value} {s' : Shared} (h : L2.CX P w l H s (fun _ _ _ => False) e s') : False := by
  obtain ⟨_, _, _, _, _, _, _, _, _, _, _, _, z⟩ := h
  exact z.elim
end DN
namespace HT
open PySem PyProof.Rows
section
variable {prog : Program} {w : World} {A : Around} {E : Value → Shared → Prop} {s : Shared}
end
end HT
namespace DN
open PySem PySem.Spec PyProof.Rows L2
open LamX (Tabs ExtN)
section
variable {X : Cx}
end
theorem _root_.L2.PE.or {X : Cx} {e : Expr} {t u : TE} (h : PE X e t) (h2 : PE X e u) : PE X e (fun σ H Q => t σ H Q ∨ u σ H Q) := ⟨fun pins s σ H Q I q => q.elim (h.run pins s σ H Q I) (h2.run pins s σ H Q I)⟩
section
variable {X : Cx} {T : List (Addr × Str)} {W : WX}
end
end DN
namespace DN
open PySem PySem.Spec PyProof.Rows L2

/-! ### evaluating functions of data -/
def app2 (G : D → D → Option D) : Res D → Res D → Res D
  | .ok a, .ok b => ofO (G a b)
  | .ok _, .ex n => .ex n
  | .ok _, .bad => .bad
  | .ex n, _ => .ex n
  | .bad, _ => .bad
def app1 (G : D → Option D) (r : Res D) : Res D := r.bind fun a => ofO (G a)
def appL (G : List D → Option D) (r : Res (List D)) : Res D := r.bind fun a => ofO (G a)
def consR : Res D → Res (List D) → Res (List D)
  | .ok a, .ok b => .ok (a :: b)
  | .ok _, .ex n => .ex n
  | .ok _, .bad => .bad
  | .ex n, _ => .ex n
  | .bad, _ => .bad
def callR (n : Nat) (den : List D → Res D) (r : Res (List D)) : Res D := r.bind fun ds => if ds.length = n then den ds else .bad
def tstR (r : Res D) : Res Bool := r.bind ans
def seqR (r : SR) (t : Rho → SR) : SR := match r with
  | .nx ρ => t ρ
  | r => r
def retR (r : Res D) (ρ : Rho) : SR := bindS r ρ .rt
def asgR (r : Res D) (ρ : Rho) (g : Tg) : SR := bindS r ρ fun d => match g ρ d with
  | some ρ' => .nx ρ'
  | none => .bad
def ifR (r : Res Bool) (s t : Rho → SR) (ρ : Rho) : SR := bindS r ρ fun b => if b = true then s ρ else t ρ
def finR : SR → Res D
  | .nx _ => .ok .non
  | .rt d => .ok d
  | .ex m _ => .ex m
  | _ => .bad
def andR (r : Res Bool) (g : Rho → Res Bool) (ρ : Rho) : Res Bool := r.bind fun b => if b = true then g ρ else .ok false
def orR (r : Res Bool) (g : Rho → Res Bool) (ρ : Rho) : Res Bool := r.bind fun b => if b = true then .ok true else g ρ
def notR (r : Res Bool) : Res Bool := r.bind fun b => .ok (!b)
def andER (r : Res D) (g : Rho → Res D) (ρ : Rho) : Res D := r.bind fun d => (ans d).bind fun b => if b = true then g ρ else .ok (.bl false)
def orER (r : Res D) (g : Rho → Res D) (ρ : Rho) : Res D := r.bind fun d => (ans d).bind fun b => if b = true then .ok (.bl true) else g ρ
def notER (r : Res D) : Res D := r.bind fun d => (ans d).bind fun b => .ok (.bl (!b))
def mkTR (r : Res (List D)) : Res D := r.bind fun ds => if ds.length ≤ sizeLine then .ok (.tup ds) else .bad
def mkLR (r : Res (List D)) : Res D := r.bind fun ds => if ds.length ≤ sizeLine then .ok (.lst ds) else .bad
def slcR (r : Res D) (lo hi : Res (Option Int)) : Res D := r.bind fun d => lo.bind fun lo => hi.bind fun hi => ofO (slD d lo hi)
def psmR (r : Res D) : Res (Option Int) := r.bind intO
def forR (r : Res (List D)) (g : Tg) (s : Rho → SR) (ρ : Rho) : SR := bindS r ρ fun ds => loopD g s ds ρ
def chnR (G G' : D → D → Option D) (a b c : Res D) : Res D := a.bind fun d => b.bind fun e => (ofO (G d e)).bind fun z => (ans z).bind fun k => if k = true then c.bind fun c => ofO (G' e c) else .ok (.bl false)
theorem runB_eq {n : Nat} {g : Rho → SR} {ds : List D} {ρ : Rho} (h : startR n ds = ρ) : runB n g ds = finR (g ρ) := by
  subst h
  unfold runB finR
  cases g (startR n ds) <;> rfl
section
variable {ρ : Rho}
theorem bin_def {G f g} : bop G f g ρ = app2 G (f ρ) (g ρ) := by
  unfold bop app2
  cases f ρ <;> cases g ρ <;> rfl
theorem una_def {G f} : una G f ρ = app1 G (f ρ) := rfl
theorem cal_def {G f} : cal G f ρ = appL G (f ρ) := rfl
theorem acons_def {f g} : acons f g ρ = consR (f ρ) (g ρ) := by
  unfold acons consR
  cases f ρ <;> cases g ρ <;> rfl
theorem anil_def : anil ρ = .ok [] := rfl
theorem con_def {d} : con d ρ = .ok d := rfl
theorem callD_def {n den f} : callD n den f ρ = callR n den (f ρ) := rfl
theorem tst_def {f} : tst f ρ = tstR (f ρ) := rfl
theorem sseq_def {s t} : sseq s t ρ = seqR (s ρ) t := by
  unfold sseq seqR
  cases s ρ <;> rfl
theorem sret_def {f} : sret f ρ = retR (f ρ) ρ := rfl
theorem sasg_def {f g} : sasg f g ρ = asgR (f ρ) ρ g := rfl
theorem sif_def {c s t} : sif c s t ρ = ifR (c ρ) s t ρ := rfl
theorem sskip_def : sskip ρ = .nx ρ := rfl
theorem sraise_def {x} : sraise x ρ = .ex x ρ := rfl
theorem andQ_def {f g} : andQ f g ρ = andR (f ρ) g ρ := rfl
theorem orQ_def {f g} : orQ f g ρ = orR (f ρ) g ρ := rfl
theorem notQ_def {f} : notQ f ρ = notR (f ρ) := rfl
theorem andE_def {f g} : andE f g ρ = andER (f ρ) g ρ := rfl
theorem orE_def {f g} : orE f g ρ = orER (f ρ) g ρ := rfl
theorem notE_def {f} : notE f ρ = notER (f ρ) := rfl
theorem mkT_def {f} : mkT f ρ = mkTR (f ρ) := rfl
theorem mkL_def {f} : mkL f ρ = mkLR (f ρ) := rfl
theorem slc_def {f g h} : slc f g h ρ = slcR (f ρ) (g ρ) (h ρ) := rfl
theorem psm_def {f} : psm f ρ = psmR (f ρ) := rfl
theorem pno_def : pno ρ = .ok none := rfl
theorem sfor_def {f g s} : sfor f g s ρ = forR (f ρ) g s ρ := rfl
theorem chn_def {G G' f g h} : chn G G' f g h ρ = chnR G G' (f ρ) (g ρ) (h ρ) := rfl
theorem var_zero {d r} : var 0 (.z d :: r) = .ok d := rfl
theorem var_succ {n x r} : var (n + 1) (x :: r) = var n r := rfl
theorem app2_ok {G a b} : app2 G (.ok a) (.ok b) = ofO (G a b) := rfl
theorem app1_ok {G a} : app1 G (.ok a) = ofO (G a) := rfl
theorem appL_ok {G a} : appL G (.ok a) = ofO (G a) := rfl
theorem consR_ok {a b} : consR (.ok a) (.ok b) = .ok (a :: b) := rfl
theorem ofO_some {α} {a : α} : ofO (some a) = .ok a := rfl
theorem call0 {den} : callR 0 den (.ok []) = den [] := rfl
theorem call1 {den a} : callR 1 den (.ok [a]) = den [a] := rfl
theorem call2 {den a b} : callR 2 den (.ok [a, b]) = den [a, b] := rfl
theorem call3 {den a b c} : callR 3 den (.ok [a, b, c]) = den [a, b, c] := rfl
theorem call4 {den a b c d} : callR 4 den (.ok [a, b, c, d]) = den [a, b, c, d] := rfl
theorem call5 {den a b c d e} : callR 5 den (.ok [a, b, c, d, e]) = den [a, b, c, d, e] := rfl
theorem tstR_ok {b} : tstR (.ok (.bl b)) = .ok b := rfl
theorem seqR_nx {t} : seqR (.nx ρ) t = t ρ := rfl
theorem seqR_rt {d t} : seqR (.rt d) t = .rt d := rfl
theorem seqR_ex {n t} : seqR (.ex n ρ) t = .ex n ρ := rfl
theorem retR_ok {d} : retR (.ok d) ρ = .rt d := rfl
theorem retR_ex {n} : retR (.ex n) ρ = .ex n ρ := rfl
theorem asgR_n {d i} : asgR (.ok d) ρ (gn i) = .nx (ρ.set i (.z d)) := rfl
theorem asgR_ex {n g} : asgR (.ex n) ρ g = .ex n ρ := rfl
theorem asgR_2 {a b i j} : asgR (.ok (.tup [a, b])) ρ (gt 2 (gsc (gn i) (gsc (gn j) gsn))) = .nx ((ρ.set i (.z a)).set j (.z b)) := rfl
theorem asgR_2L {a b i j} : asgR (.ok (.lst [a, b])) ρ (gt 2 (gsc (gn i) (gsc (gn j) gsn))) = .nx ((ρ.set i (.z a)).set j (.z b)) := rfl
theorem asgR_3 {a b c i j k} : asgR (.ok (.tup [a, b, c])) ρ (gt 3 (gsc (gn i) (gsc (gn j) (gsc (gn k) gsn)))) = .nx (((ρ.set i (.z a)).set j (.z b)).set k (.z c)) := rfl
theorem ifR_t {s t} : ifR (.ok true) s t ρ = s ρ := rfl
theorem ifR_f {s t} : ifR (.ok false) s t ρ = t ρ := rfl
theorem finR_rt {d} : finR (.rt d) = .ok d := rfl
theorem finR_nx : finR (.nx ρ) = .ok .non := rfl
theorem finR_ex {n} : finR (.ex n ρ) = .ex n := rfl
theorem andR_t {g} : andR (.ok true) g ρ = g ρ := rfl
theorem andR_f {g} : andR (.ok false) g ρ = .ok false := rfl
theorem orR_t {g} : orR (.ok true) g ρ = .ok true := rfl
theorem orR_f {g} : orR (.ok false) g ρ = g ρ := rfl
theorem notR_ok {b} : notR (.ok b) = .ok (!b) := rfl
theorem andER_t {g} : andER (.ok (.bl true)) g ρ = g ρ := rfl
theorem andER_f {g} : andER (.ok (.bl false)) g ρ = .ok (.bl false) := rfl
theorem orER_t {g} : orER (.ok (.bl true)) g ρ = .ok (.bl true) := rfl
theorem orER_f {g} : orER (.ok (.bl false)) g ρ = g ρ := rfl
theorem notER_ok {b} : notER (.ok (.bl b)) = .ok (.bl (!b)) := rfl
theorem psmR_ok {i} : psmR (.ok (.int i)) = .ok (some i) := rfl
theorem slcR_ok {d lo hi} : slcR (.ok d) (.ok lo) (.ok hi) = ofO (slD d lo hi) := rfl
theorem loop_nil {g s} : loopD g s [] ρ = .nx ρ := rfl
theorem loop_cons {g s d ds ρ1 ρ'} (h : g ρ d = some ρ1) (h2 : s ρ1 = .nx ρ') : loopD g s (d :: ds) ρ = loopD g s ds ρ' := by
  show (match g ρ d with | none => SR.bad | some ρ1 => match s ρ1 with | .nx ρ' => loopD g s ds ρ' | .ct ρ' => loopD g s ds ρ' | .bk ρ' => .nx ρ' | r => r) = _
  rw [h]
  show (match s ρ1 with | .nx ρ' => loopD g s ds ρ' | .ct ρ' => loopD g s ds ρ' | .bk ρ' => .nx ρ' | r => r) = _
  rw [h2]
theorem forR_ok {ds g s} : forR (.ok ds) g s ρ = loopD g s ds ρ := rfl
theorem mkTR_ok {ds : List D} (h : ds.length ≤ 1000000) : mkTR (.ok ds) = .ok (.tup ds) := by
  show (if ds.length ≤ sizeLine then Res.ok (D.tup ds) else .bad) = _
  rw [if_pos (by rw [sizeLine_eq]; omega)]
theorem mkLR_ok {ds : List D} (h : ds.length ≤ 1000000) : mkLR (.ok ds) = .ok (.lst ds) := by
  show (if ds.length ≤ sizeLine then Res.ok (D.lst ds) else .bad) = _
  rw [if_pos (by rw [sizeLine_eq]; omega)]
theorem chn_le {i j k} : chnR leD leD (.ok (.int i)) (.ok (.int j)) (.ok (.int k)) = .ok (.bl (decide (i ≤ j) && decide (j ≤ k))) := by
  show (if decide (i ≤ j) = true then Res.ok (D.bl (decide (j ≤ k))) else .ok (.bl false)) = _
  cases decide (i ≤ j) <;> rfl
theorem chn_lt {i j k} : chnR leD ltD (.ok (.int i)) (.ok (.int j)) (.ok (.int k)) = .ok (.bl (decide (i ≤ j) && decide (j < k))) := by
  show (if decide (i ≤ j) = true then Res.ok (D.bl (decide (j < k))) else .ok (.bl false)) = _
  cases decide (i ≤ j) <;> rfl
/-! the operators on what they are for -/
theorem add_ii {i j} : addD (.int i) (.int j) = some (.int (i + j)) := rfl
theorem sub_ii {i j} : subD (.int i) (.int j) = some (.int (i - j)) := rfl
theorem neg_i {i} : negD (.int i) = some (.int (-i)) := rfl
theorem lt_ii {i j} : ltD (.int i) (.int j) = some (.bl (decide (i < j))) := rfl
theorem le_ii {i j} : leD (.int i) (.int j) = some (.bl (decide (i ≤ j))) := rfl
theorem gt_ii {i j} : gtD (.int i) (.int j) = some (.bl (decide (j < i))) := rfl
theorem ge_ii {i j} : geD (.int i) (.int j) = some (.bl (decide (j ≤ i))) := rfl
theorem eq_ii {i j} : eqD (.int i) (.int j) = some (.bl (i == j)) := by simp [eqD, eqOk, flatD, eqd]
theorem ne_ii {i j} : neD (.int i) (.int j) = some (.bl (!(i == j))) := by simp [neD, eqOk, flatD, eqd]
theorem eq_ss {i j} : eqD (.str i) (.str j) = some (.bl (i == j)) := by simp [eqD, eqOk, flatD, eqd]
theorem ne_ss {i j} : neD (.str i) (.str j) = some (.bl (!(i == j))) := by simp [neD, eqOk, flatD, eqd]
theorem eq_bb {i j} : eqD (.bl i) (.bl j) = some (.bl (i == j)) := by simp [eqD, eqOk, flatD, eqd]
theorem ne_bb {i j} : neD (.bl i) (.bl j) = some (.bl (!(i == j))) := by simp [neD, eqOk, flatD, eqd]
theorem mul_l {i j : Int} (h : -(2 ^ 64) < i ∧ i < 2 ^ 64) : mulD (.int i) (.int j) = some (.int (i * j)) := by
  show (if CMulD i j then some (D.int (i * j)) else none) = _
  rw [if_pos (.inl (.inl h))]
theorem mul_r {i j : Int} (h : -(2 ^ 64) < j ∧ j < 2 ^ 64) : mulD (.int i) (.int j) = some (.int (i * j)) := by
  show (if CMulD i j then some (D.int (i * j)) else none) = _
  rw [if_pos (.inl (.inr h))]
theorem log2_lt {n k : Nat} (h : n < 2 ^ k) (hk : 0 < k) : n.log2 < k := by
  by_cases h0 : n = 0
  · subst h0; simpa using hk
  · exact (Nat.log2_lt h0).mpr h
theorem mul_w {i j : Int} (h1 : i.natAbs < 2 ^ 100000) (h2 : j.natAbs < 2 ^ 100000) : mulD (.int i) (.int j) = some (.int (i * j)) := by
  show (if CMulD i j then some (D.int (i * j)) else none) = _
  have a := log2_lt h1 (by decide)
  have b := log2_lt h2 (by decide)
  rw [if_pos (.inr (show i.natAbs.log2 + j.natAbs.log2 < 1000000 by omega))]
theorem div_s {i j : Int} (h : 0 < j ∧ j < 2 ^ 64) : divD (.int i) (.int j) = some (.int (i / j)) := by
  show (if CDivW i j then some (D.int (i / j)) else none) = _
  have a : j.natAbs.log2 < 64 := log2_lt (by omega) (by decide)
  rw [if_pos ⟨h.1, by omega⟩]
theorem mod_p {i j : Int} (h : 0 < j) : modD (.int i) (.int j) = some (.int (i % j)) := by
  show (if 0 < j then some (D.int (i % j)) else none) = _
  rw [if_pos h]
theorem ix_t {xs : List D} {i : Int} (h : 0 ≤ i ∧ i < xs.length) : ixD (.tup xs) (.int i) = some (xs.getD i.toNat .non) := by
  show atI xs i = _
  unfold atI ixN
  rw [if_pos h.1, if_pos h.2]
  show xs[i.toNat]? = _
  rw [List.getElem?_eq_getElem (by omega), List.getD_eq_getElem?_getD, List.getElem?_eq_getElem (by omega)]
  rfl
theorem ix_l {xs : List D} {i : Int} (h : 0 ≤ i ∧ i < xs.length) : ixD (.lst xs) (.int i) = some (xs.getD i.toNat .non) := by
  show atI xs i = _
  unfold atI ixN
  rw [if_pos h.1, if_pos h.2]
  show xs[i.toNat]? = _
  rw [List.getElem?_eq_getElem (by omega), List.getD_eq_getElem?_getD, List.getElem?_eq_getElem (by omega)]
  rfl
theorem ix_tm {xs : List D} {i m : Int} (h : 0 < m ∧ m ≤ xs.length) : ixD (.tup xs) (.int (i % m)) = some (xs.getD (i % m).toNat .non) := ix_t ⟨Int.emod_nonneg _ (by omega), Int.lt_of_lt_of_le (Int.emod_lt_of_pos _ h.1) h.2⟩
theorem ix_lm {xs : List D} {i m : Int} (h : 0 < m ∧ m ≤ xs.length) : ixD (.lst xs) (.int (i % m)) = some (xs.getD (i % m).toNat .non) := ix_l ⟨Int.emod_nonneg _ (by omega), Int.lt_of_lt_of_le (Int.emod_lt_of_pos _ h.1) h.2⟩
theorem ix_t0 {a : D} {r : List D} : ixD (.tup (a :: r)) (.int 0) = some a := by
  show atI (a :: r) 0 = _
  unfold atI ixN
  rw [if_pos (by decide), if_pos (by simp only [List.length_cons]; omega)]
  rfl
theorem ix_t1 {a b : D} {r : List D} : ixD (.tup (a :: b :: r)) (.int 1) = some b := by
  show atI (a :: b :: r) 1 = _
  unfold atI ixN
  rw [if_pos (by decide), if_pos (by simp only [List.length_cons]; omega)]
  rfl
theorem ix_t2 {a b c : D} {r : List D} : ixD (.tup (a :: b :: c :: r)) (.int 2) = some c := by
  show atI (a :: b :: c :: r) 2 = _
  unfold atI ixN
  rw [if_pos (by decide), if_pos (by simp only [List.length_cons]; omega)]
  rfl
theorem ix_t3 {a b c d : D} {r : List D} : ixD (.tup (a :: b :: c :: d :: r)) (.int 3) = some d := by
  show atI (a :: b :: c :: d :: r) 3 = _
  unfold atI ixN
  rw [if_pos (by decide), if_pos (by simp only [List.length_cons]; omega)]
  rfl
theorem ix_t4 {a b c d e : D} {r : List D} : ixD (.tup (a :: b :: c :: d :: e :: r)) (.int 4) = some e := by
  show atI (a :: b :: c :: d :: e :: r) 4 = _
  unfold atI ixN
  rw [if_pos (by decide), if_pos (by simp only [List.length_cons]; omega)]
  rfl
theorem ix_t5 {a b c d e f : D} {r : List D} : ixD (.tup (a :: b :: c :: d :: e :: f :: r)) (.int 5) = some f := by
  show atI (a :: b :: c :: d :: e :: f :: r) 5 = _
  unfold atI ixN
  rw [if_pos (by decide), if_pos (by simp only [List.length_cons]; omega)]
  rfl
theorem ix_t6 {a b c d e f g : D} {r : List D} : ixD (.tup (a :: b :: c :: d :: e :: f :: g :: r)) (.int 6) = some g := by
  show atI (a :: b :: c :: d :: e :: f :: g :: r) 6 = _
  unfold atI ixN
  rw [if_pos (by decide), if_pos (by simp only [List.length_cons]; omega)]
  rfl
theorem ix_t7 {a b c d e f g h : D} {r : List D} : ixD (.tup (a :: b :: c :: d :: e :: f :: g :: h :: r)) (.int 7) = some h := by
  show atI (a :: b :: c :: d :: e :: f :: g :: h :: r) 7 = _
  unfold atI ixN
  rw [if_pos (by decide), if_pos (by simp only [List.length_cons]; omega)]
  rfl
theorem ix_l0 {a : D} {r : List D} : ixD (.lst (a :: r)) (.int 0) = some a := by
  show atI (a :: r) 0 = _
  unfold atI ixN
  rw [if_pos (by decide), if_pos (by simp only [List.length_cons]; omega)]
  rfl
theorem ix_l1 {a b : D} {r : List D} : ixD (.lst (a :: b :: r)) (.int 1) = some b := by
  show atI (a :: b :: r) 1 = _
  unfold atI ixN
  rw [if_pos (by decide), if_pos (by simp only [List.length_cons]; omega)]
  rfl
theorem ix_l2 {a b c : D} {r : List D} : ixD (.lst (a :: b :: c :: r)) (.int 2) = some c := by
  show atI (a :: b :: c :: r) 2 = _
  unfold atI ixN
  rw [if_pos (by decide), if_pos (by simp only [List.length_cons]; omega)]
  rfl
theorem ix_l3 {a b c d : D} {r : List D} : ixD (.lst (a :: b :: c :: d :: r)) (.int 3) = some d := by
  show atI (a :: b :: c :: d :: r) 3 = _
  unfold atI ixN
  rw [if_pos (by decide), if_pos (by simp only [List.length_cons]; omega)]
  rfl
theorem ix_l4 {a b c d e : D} {r : List D} : ixD (.lst (a :: b :: c :: d :: e :: r)) (.int 4) = some e := by
  show atI (a :: b :: c :: d :: e :: r) 4 = _
  unfold atI ixN
  rw [if_pos (by decide), if_pos (by simp only [List.length_cons]; omega)]
  rfl
theorem ix_l5 {a b c d e f : D} {r : List D} : ixD (.lst (a :: b :: c :: d :: e :: f :: r)) (.int 5) = some f := by
  show atI (a :: b :: c :: d :: e :: f :: r) 5 = _
  unfold atI ixN
  rw [if_pos (by decide), if_pos (by simp only [List.length_cons]; omega)]
  rfl
theorem ix_l6 {a b c d e f g : D} {r : List D} : ixD (.lst (a :: b :: c :: d :: e :: f :: g :: r)) (.int 6) = some g := by
  show atI (a :: b :: c :: d :: e :: f :: g :: r) 6 = _
  unfold atI ixN
  rw [if_pos (by decide), if_pos (by simp only [List.length_cons]; omega)]
  rfl
theorem ix_l7 {a b c d e f g h : D} {r : List D} : ixD (.lst (a :: b :: c :: d :: e :: f :: g :: h :: r)) (.int 7) = some h := by
  show atI (a :: b :: c :: d :: e :: f :: g :: h :: r) 7 = _
  unfold atI ixN
  rw [if_pos (by decide), if_pos (by simp only [List.length_cons]; omega)]
  rfl
theorem len_t {xs : List D} : lenD [.tup xs] = some (.int xs.length) := rfl
theorem len_l {xs : List D} : lenD [.lst xs] = some (.int xs.length) := rfl
theorem len_a {xs : List Int} : lenD [.arr xs] = some (.int xs.length) := rfl
theorem abs_i {i : Int} : absD [.int i] = some (.int (if i < 0 then -i else i)) := rfl
theorem max_ii {i j : Int} : maxD [.int i, .int j] = some (.int (if j > i then j else i)) := rfl
theorem min_ii {i j : Int} : minD [.int i, .int j] = some (.int (if j < i then j else i)) := rfl
theorem int_i {i : Int} : intD [.int i] = some (.int i) := rfl
theorem int_b {b : Bool} : intD [.bl b] = some (.int (if b then 1 else 0)) := rfl
theorem int_t : intD [.bl true] = some (.int 1) := rfl
theorem int_f : intD [.bl false] = some (.int 0) := rfl
theorem str_i {i : Int} (h : i.natAbs < 2 ^ 1900) : strD [.int i] = some (.str (toString i)) := by
  show (if i.natAbs.log2 < 1920 then some (D.str (toString i)) else none) = _
  have a := log2_lt h (by decide)
  rw [if_pos (by omega)]
theorem isi_i {i n b} (h : kitB "int" n = some b) : isiD [.int i, .ty n] = some (.bl b) := by simp [isiD, tyD, h]
theorem isi_b {i n b} (h : kitB "bool" n = some b) : isiD [.bl i, .ty n] = some (.bl b) := by simp [isiD, tyD, h]
theorem isi_s {i n b} (h : kitB "str" n = some b) : isiD [.str i, .ty n] = some (.bl b) := by simp [isiD, tyD, h]
theorem isi_t {i n b} (h : kitB "tuple" n = some b) : isiD [.tup i, .ty n] = some (.bl b) := by simp [isiD, tyD, h]
theorem isi_l {i n b} (h : kitB "list" n = some b) : isiD [.lst i, .ty n] = some (.bl b) := by simp [isiD, tyD, h]
theorem isi_n {n b} (h : kitB "NoneType" n = some b) : isiD [.non, .ty n] = some (.bl b) := by simp [isiD, tyD, h]
end
end DN
namespace DN
open PySem PySem.Spec PyProof.Rows L2
instance : Decidable (CPow i j) := by unfold CPow; infer_instance
end DN
namespace DN
open PySem PySem.Spec PyProof.Rows L2
open LamX (Tabs ExtN)

/-! ### methods of texts -/
section
variable {X : Cx} {T : List (Addr × Str)} {W : WX}
end
/-! evaluating -/
end DN
namespace DN
open PySem PySem.Spec PyProof.Rows L2
open LamX (Tabs ExtN CodeO GivesTo tLam LamS TabB lamCx lamEnv)

/-! ### list.count, flat items -/
section
variable {X : Cx}
end

/-! ### told: what an own error is told as -/
section
variable {X : Cx} {T : List (Addr × Str)}
end
end DN
namespace DN
open PySem PySem.Spec PyProof.Rows L2
open LamX (Tabs ExtN CodeO GivesTo tLam LamS TabB lamCx lamEnv)

/-- a def that makes lambdas: its code object is known -/
theorem fn_okC {P : Program} {w : World} {K : PySem.W.Frag} {mg : Str → Option Value} {base : Heap} {T : List (Addr × Str)} {k : Nat} {x qual : Str} {params : Arguments} {body : List Stmt} {scope : Scope} {kws : List (Str × V)} {fd : FuncData} {N ps : List Str} {n : Nat} {s : Rho → SR}
    (Fd : FunD K x qual params body scope [] kws (He.ga K x) fd) (S : FnScope N ps scope) (hn : ps.length = n)
    (hb : ∀ (A : Around) (outer : List Env) (s0 : Shared) (H0 : Hp) (E : XK) (F0 : Hp), Room k (A.deeper (envOfC qual scope s0.heap.objs.size (He.ga K x) (.ref (He.cT K (x, none)).1))) → DSs (cxOf (L2.CX P w) P w K mg base N qual scope (He.ga K x) (.ref (He.cT K (x, none)).1) A outer s0 H0 E) T (WofE E) F0 H0 body s) :
    FnOk P w K mg base (L2.CX P w) (k + 1) (He.ga K x) fd ps (spD K T n (runB N.length s)) := by
  obtain ⟨oc, od, dV, kV, doc, pm, an, cdv, ct, osl, rfl, lk, hcd, hD, hK⟩ := Fd.ex
  obtain ⟨c, rfl⟩ := He.codeIn_ref hcd
  have ec : (He.cT K (x, none)).1 = c := He.codeOf_eq (p := (x, none)) lk rfl
  rw [ec] at hb
  refine fn_of lk hcd S (fun vs H Q E h => ?_) fun A outer s0 H vs Q E hr h => ?_
  · obtain ⟨F, ds, _, _, r, hl, _⟩ := h
    rw [r.length, hl, hn]
  · obtain ⟨F, ds, z, tb, r, hl, h⟩ := h
    refine ⟨_, hb A outer s0 H E F hr, startR N.length ds, F, ⟨⟨z, tb, Rl.start r⟩, Nx.refl z, fun i d p h1 => ?_⟩, ?_⟩
    · exfalso
      unfold startR at h1
      rw [List.getElem?_append] at h1
      split at h1
      · rw [List.getElem?_map] at h1
        cases e : ds[i]? with
        | none => rw [e] at h1; cases h1
        | some d => rw [e] at h1; cases h1
      · rw [List.getElem?_replicate] at h1
        split at h1 <;> cases h1
    · unfold runB at h
      cases e : s (startR N.length ds) with
      | nx ρ => rw [e] at h; exact fun σ F' H' g _ => h .non F' H' g.nx .non
      | rt d => rw [e] at h; exact fun v F' H' nx rv => h v F' H' nx rv
      | ex m ρ => rw [e] at h; exact fun σ F' H' g _ => h F' H' g.nx
      | bk ρ => rw [e] at h; exact h.elim
      | ct ρ => rw [e] at h; exact h.elim
      | bad => rw [e] at h; exact h.elim
section
variable {X : Cx} {T : List (Addr × Str)} {W : WX}
end
theorem lawAtT {l : PySem.W.OpenLaw} {w : World} {K : PySem.W.Frag} {k n : Nat} {x : Str} {mg : Str → Option Value} {fa : Addr} {h : Heap} {fd : FuncData} {den : List D → Res D} {tf : List He.Defn} {T : List (Addr × Str)} (X : K.In h)
    (hd0 : ∀ p ∈ tf, PySem.W.codeHdIn K (He.cT K p).1 (He.cT K p).2 = true) (out : ∀ p ∈ tf, K.lookup (He.cT K p).2 = none) (empty : ∀ p ∈ tf, h.get? (He.cT K p).2 = some { cls := .none, data := .fields #[] })
    (hT : ∀ p ∈ T, ∃ d ∈ tf, p.1 = (He.cT K d).2)
    (hb : ∀ (s : Shared) (u : Value), BindsTo s fd ⟨[u], []⟩ [(x, u)])
    (hd : ∀ ns : List Int, ns.length ≤ n → (∀ z ∈ ns, Builtin.Int.intBits z ≤ 1048576) → den [.arr ns] = .ok (.bl true))
    (hF : ∀ base : Heap, K.In base → base.Ns mainGlobals mg → (∀ d ∈ tf, TabB base mg (He.cT K d).1 (He.cT K d).2) → FnOk l.prog w K mg base (L2.CX l.prog w) k fa fd [x] (spD K T 1 den)) : LamX.LawAtS l w K (L2.CX l.prog w) k n x mg fa h := by
  have key : ∀ p ∈ tf.map (He.cT K), ∃ d ∈ tf, p = He.cT K d := fun p hp => by
    obtain ⟨d, h1, h2⟩ := List.mem_map.mp hp
    exact ⟨d, h1, h2.symm⟩
  refine ⟨fd, tf.map (He.cT K), spD K T 1 den, fun p hp => ?_, fun p hp => ?_, fun p hp => ?_, hb, fun H a ns hl hz ht hS => law_sp (fun p hp => ?_) hS (hd ns hl hz), fun base h1 h2 h3 => hF base h1 h2 fun d hd => h3 _ (List.mem_map.mpr ⟨d, hd, rfl⟩)⟩
  · obtain ⟨d, h1, rfl⟩ := key p hp; exact empty d h1
  · obtain ⟨d, h1, rfl⟩ := key p hp; exact out d h1
  · obtain ⟨d, h1, rfl⟩ := key p hp; exact PySem.W.codeHd_of_K X (hd0 d h1)
  · obtain ⟨d, h1, h2⟩ := hT p hp
    rw [h2]
    exact LamX.TabS.nil (ht _ (List.mem_map.mpr ⟨d, h1, rfl⟩))
end DN
namespace DN
open PySem PySem.Spec PyProof.Rows L2
open LamX (Tabs ExtN)
section
variable {X : Cx} {T : List (Addr × Str)} {W : WX}
end
end DN
namespace DN
open PySem PySem.Spec PyProof.Rows L2
open LamX (Tabs ExtN)

/-! ### a module's dict of defs, text keys -/
theorem dicW_full {K : PySem.W.Frag} {w : World} {a : Addr} {ks : List Str} (h : He.dicW K a = some (He.keysIn w.params ks)) : ∃ es n, KDict K w a es n ∧ es.toList.map He.keyOf = He.keysIn w.params ks := by
  obtain ⟨es, n, D⟩ := He.dicW_ok h
  refine ⟨es, n, D, ?_⟩
  unfold He.dicW at h
  rw [D.at_] at h
  simp only [D.low] at h
  exact Option.some.inj h
theorem keys_miss {P : Params} {z : Str} : ∀ {l : List DictEntry} {ks : List Str}, l.map He.keyOf = He.keysIn P ks → z ∉ ks → l.find? (·.key.isStr z) = none ∧ l.any (·.refKey) = false
  | [], _, _, _ => ⟨rfl, rfl⟩
  | e :: r, [], h, _ => by cases h
  | e :: r, k :: ks, h, hz => by
    have h1 : He.keyOf e :: r.map He.keyOf = some (k, PyData.keyHash P k) :: He.keysIn P ks := h
    injection h1 with h2 h3
    obtain ⟨i1, i2⟩ := keys_miss h3 (fun q => hz (List.mem_cons_of_mem _ q))
    have hk : ∃ t, e.key = .str k t := by
      unfold He.keyOf at h2
      split at h2
      · rename_i x t q
        obtain ⟨h5, _⟩ := Prod.mk.inj (Option.some.inj h2)
        exact ⟨t, by rw [q, h5]⟩
      · cases h2
    obtain ⟨t, hk⟩ := hk
    have n1 : e.key.isStr z = false := by
      rw [hk]
      show (k == z) = false
      exact beq_eq_false_iff_ne.mpr fun q => hz (by rw [q]; exact List.mem_cons_self)
    have n2 : e.refKey = false := by unfold DictEntry.refKey; rw [hk]
    refine ⟨?_, ?_⟩
    · rw [List.find?_cons, n1]; exact i1
    · rw [List.any_cons, n2, i2]; rfl
/-- the module's dict x: text keys, defs -/
structure DicF (w : World) (K : PySem.W.Frag) (mg : Str → Option Value) (x : Str) (kvs : List (Str × Str)) : Prop where
  kd : ∃ es n, KDict K w (He.ga K x) es n ∧ es.toList.map He.keyOf = He.keysIn w.params (kvs.map Prod.fst)
  vals : ∀ q ∈ kvs, ∃ u, PySem.W.nsIn K (He.ga K x) q.1 = some (some u) ∧ RelV (.ref (He.ga K q.2)) u
  g : mg x = some (.ref (He.ga K x))
theorem DicF.ns {w : World} {K : PySem.W.Frag} {mg : Str → Option Value} {x : Str} {kvs : List (Str × Str)} (D : DicF w K mg x kvs) (z : Str) : ∃ r, PySem.W.nsIn K (He.ga K x) z = some r ∧ r.isSome = (kvs.map Prod.fst).contains z := by
  by_cases h : z ∈ kvs.map Prod.fst
  · obtain ⟨q, hq, rfl⟩ := List.mem_map.mp h
    obtain ⟨u, h1, _⟩ := D.vals q hq
    exact ⟨some u, h1, by rw [List.contains_iff_mem.mpr h]; rfl⟩
  · obtain ⟨es, n, kd, hk⟩ := D.kd
    obtain ⟨h1, h2⟩ := keys_miss hk h
    refine ⟨none, ?_, ?_⟩
    · unfold PySem.W.nsIn
      rw [kd.at_]
      simp only [h1, h2]
      rfl
    · have : (kvs.map Prod.fst).contains z = false := by
        rw [Bool.eq_false_iff]
        exact fun q => h (List.contains_iff_mem.mp q)
      rw [this]; rfl
theorem tab_eq {fa : List He.Fa} {fn : List He.DefD} {ts : List He.Tab} {w : World} {K : PySem.W.Frag} (c : He.SaysT fa fn ts w K) (i : Nat) {t : He.Tab} (h : ts[i]? = some t) : He.dicW K (t.1 K) = some (He.keysIn w.params t.2) := by
  have e : ts.map (fun t => He.dicW K (t.1 K)) = ts.map fun t => some (He.keysIn w.params t.2) := congrArg (fun z : He.AlT => z.2) c
  have e2 : (ts.map fun t => He.dicW K (t.1 K))[i]? = (ts.map fun t => some (He.keysIn w.params t.2))[i]? := by rw [e]
  rw [List.getElem?_map, List.getElem?_map, h] at e2
  exact Option.some.inj e2
section
variable {X : Cx} {T : List (Addr × Str)} {W : WX} {F0 H0 : Hp}
/-! ### a call of a name that holds a def -/
/-! ### try with two handlers -/
end
end DN
namespace DN
open PySem PySem.Spec PyProof.Rows L2
open LamX (Tabs ExtN)

theorem lt1 {a c : Nat} (h : a + 64 < c) : a + 1 < c := by omega
section
variable {X : Cx} {T : List (Addr × Str)} {W : WX} {F0 H0 : Hp}
/-! ### a display of text keys that is used at once -/
structure DP (X : Cx) (T : List (Addr × Str)) (W : WX) (pos : Pos) (keys : List (Option Expr)) (values : List Expr) (ks : List Str) (f : Rho → Res (List D)) : Prop where
  ex : ∃ trs, PPs X pos keys values trs ∧ ∀ σ H (Q : List (V × V) → Hp → Prop), tA X.K T W f σ H (fun vs H' => Q ((ks.zip vs).map fun q => (V.str q.1, q.2)) H') → tPairs trs σ H Q
  len : keys.length = ks.length
  some : keys.all (·.isSome) = true
  vlen : keys.length = values.length
theorem dp_nil {pos : Pos} : DP X T W pos [] [] [] anil := ⟨⟨[], pps_nil, fun σ H Q ⟨ρ, F, a, h⟩ => h [] F H (Nx.refl a.z) .nil⟩, rfl, rfl, rfl⟩
theorem dp_cons {pos p : Pos} {j : Nat} {k : Str} {v : Expr} {keys : List (Option Expr)} {values : List Expr} {ks : List Str} {f : Rho → Res D} {g : Rho → Res (List D)} (hv : DE X T W v f) (hr : DP X T W pos keys values ks g) :
    DP X T W pos (some (.Constant (.str k) j p) :: keys) (v :: values) (k :: ks) (acons f g) := by
  obtain ⟨trs, h1, h2⟩ := hr.ex
  refine ⟨⟨_, pps_cons pe_str hv h1, fun σ H Q ⟨ρ, F, a, h⟩ => ?_⟩, by rw [List.length_cons, List.length_cons, hr.len], by rw [List.all_cons, hr.some]; rfl, by rw [List.length_cons, List.length_cons, hr.vlen]⟩
  show tE X.K T W f σ H fun y H2 => tPairs trs σ H2 fun ps H3 => Q ((V.str k, y) :: ps) H3
  refine ⟨ρ, F, a, (aft.bind (R := Rp X.K) h).imp fun d _ v F1 H1 _ _ q => ?_⟩
  obtain ⟨b, F2, _, n, rv, q⟩ := q
  refine h2 σ H1 _ ⟨ρ, F2, a.nx n, (aft.bind (R := RpAll X.K) q).imp fun ds _ vs F3 H3 _ _ q => ?_⟩
  obtain ⟨ds', F4, _, n2, rs, q⟩ := q
  exact q.ok (Nx.refl n2.z) (.cons (rv.mono n2.f) rs)
theorem merge_new : ∀ (more acc : List (Key × V)), (∀ k ∈ more.map Prod.fst, k ∉ acc.map Prod.fst) → (more.map Prod.fst).Nodup → mergeK acc more = acc ++ more
  | [], acc, _, _ => by show acc = acc ++ []; rw [List.append_nil]
  | p :: r, acc, h, hn => by
    rw [List.map_cons, List.nodup_cons] at hn
    have e : putK acc p.1 p.2 = acc ++ [p] := by
      unfold putK
      rw [if_neg]
      intro z
      obtain ⟨q, hq, e⟩ := List.any_eq_true.mp z
      exact h p.1 List.mem_cons_self (by rw [← of_decide_eq_true e]; exact List.mem_map.mpr ⟨q, hq, rfl⟩)
    show mergeK (putK acc p.1 p.2) r = _
    rw [e, merge_new r (acc ++ [p]) (fun k hk hq => ?_) hn.2, List.append_assoc]
    · rfl
    · rw [List.map_append, List.mem_append] at hq
      rcases hq with hq | hq
      · exact h k (List.mem_cons_of_mem _ hk) hq
      · simp at hq
        rw [hq] at hk
        exact hn.1 hk
theorem zip_fst {α β : Type} : ∀ {a : List α} {b : List β}, a.length = b.length → (a.zip b).map Prod.fst = a
  | [], [], _ => rfl
  | x :: a, y :: b, h => by
    rw [List.zip_cons_cons, List.map_cons, zip_fst (by simpa using h)]
theorem val_look {K : PySem.W.Frag} {F : Hp} {z : Str} : ∀ {ks : List Str} {vs : List V} {ds : List D}, RpAll K F vs ds → ks.length = vs.length →
    ((∃ v d, valV (kvK ks vs) (Sum.inr z) = some v ∧ (ks.zip ds).lookup z = some d ∧ Rp K F v d) ∨ (valV (kvK ks vs) (Sum.inr z) = none ∧ (ks.zip ds).lookup z = none))
  | [], [], [], _, _ => .inr ⟨rfl, rfl⟩
  | k :: ks, v :: vs, d :: ds, .cons h t, hl => by
    by_cases e : k = z
    · subst e
      refine .inl ⟨v, d, valV_pos rfl, ?_, h⟩
      simp [List.lookup]
    · have e2 : (z == k) = false := beq_eq_false_iff_ne.mpr fun q => e q.symm
      have e3 : valV (kvK (k :: ks) (v :: vs)) (Sum.inr z) = valV (kvK ks vs) (Sum.inr z) := valV_neg (p := (Sum.inr k, v)) fun q => e (Sum.inr.inj q)
      have e4 : ((k :: ks).zip (d :: ds)).lookup z = (ks.zip ds).lookup z := by
        rw [List.zip_cons_cons, List.lookup_cons, e2]
      rw [e3, e4]
      exact val_look t (by simpa using hl)
theorem tabs_updD {T : List (Addr × Str)} {H : Hp} {p : Addr} {xs : List (Key × V)} {o : HO} (h : Tabs T H) (e : H p = some (.dK xs)) : Tabs T (upd H p o) := fun q hq => by
  obtain ⟨ps, h1, h2, h3⟩ := h q hq
  refine ⟨ps, ?_, h2, fun pos cv hc => ?_⟩
  · rw [upd_ne fun z => by rw [z, e] at h1; cases h1]; exact h1
  · obtain ⟨c, e1, e2⟩ := h3 pos cv hc
    refine ⟨c, e1, ?_⟩
    rw [upd_ne fun z => by rw [z, e] at e2; unfold LamX.CodeO at e2; cases e2]; exact e2
/-- a dict laid empty at p, filled behind the values -/
theorem nx_fill {F H F1 H1 : Hp} {p : Addr} {o : HO} (z : Fz F H) (hp : H p = none) (n1 : Nx T F (upd H p (.dK [])) F1 H1) : Nx T F H F1 (upd H1 p o) ∧ H1 p = some (.dK []) := by
  have fp : F p = none := by
    cases q : F p with
    | none => rfl
    | some u =>
      have := z.sub _ _ q
      rw [hp] at this; cases this
  have k1 : H1 p = some (.dK []) := n1.keep upd_same fun ps q => by cases q
  have f1 : F1 p = none := n1.out (a := p) (o := .dK []) upd_same (fun ps q => by cases q) fp
  refine ⟨⟨n1.f, ⟨fun x u e => ?_, n1.z.nt⟩, fun b u e nt => ?_, fun x u e => ?_, fun t => ?_⟩, k1⟩
  · rw [upd_ne fun q => by rw [q, f1] at e; cases e]
    exact n1.z.sub _ _ e
  · have hb : b ≠ p := ne_of_none e hp
    rw [upd_ne hb]
    exact n1.h b u (by rw [upd_ne hb]; exact e) nt
  · rcases n1.new x u e with h | h
    · exact .inl h
    · exact .inr fun o' e' => h o' (by rw [upd_ne (ne_of_none e' hp)]; exact e')
  · exact tabs_updD (n1.tab ((Nx.lay (T := T) z hp).tab t)) k1
def dgetD (ks : List Str) (f : Rho → Res (List D)) (fe fg : Rho → Res D) : Rho → Res D := fun ρ => (f ρ).bind fun ds => if ds.length = ks.length then (fe ρ).bind fun k => (fg ρ).bind fun d => (match k with
  | .str z => .ok (((ks.zip ds).lookup z).getD d)
  | _ => .bad) else .bad
theorem e_dget {pos apos cpos : Pos} {keys : List (Option Expr)} {values : List Expr} {ks : List Str} {f : Rho → Res (List D)} {e g : Expr} {fe fg : Rho → Res D} (hu : X.A.units + 1 < cLine) (hd : DP X T W pos keys values ks f) (he : DE X T W e fe) (hg : DE X T W g fg) (h0 : keys ≠ []) (h15 : ks.length ≤ 15) (hnd : ks.Nodup)
    (m : M2 X (.Dict keys values pos) "get" apos e g cpos) : DE X T W (.Call (.Attribute (.Dict keys values pos) "get" apos) [e, g] [] cpos) (dgetD ks f fe fg) := by
  obtain ⟨trs, h1, ht⟩ := hd.ex
  refine (pe_dget2 hu (pe_disp h1 hd.some hd.vlen h0 (by rw [hd.len]; exact h15)) he hg m).to fun σ H Q ⟨ρ, F, a, h⟩ => ?_
  intro p hp
  have n0 : Nx T F H F (upd H p (.dK [])) := Nx.lay a.z hp
  refine ht σ _ _ ⟨ρ, F, a.nx n0, ((aft.bind (R := RpAll X.K) (aft.mono n0 h))).imp fun ds _ vs F1' H1 _ _ q => ?_⟩
  obtain ⟨ds', F1, e', n1, rv, _⟩ := q
  obtain ⟨nf, k1⟩ := nx_fill (o := .dK (kvK ks vs)) a.z hp n1
  have h' := aft.mono nf h
  unfold dgetD at h'
  rw [e'] at h'
  have h' : aft (Rp X.K) X.K T W σ F1 (upd H1 p (.dK (kvK ks vs))) Q (if ds'.length = ks.length then (fe ρ).bind fun k => (fg ρ).bind fun d => (match k with
    | .str z => .ok (((ks.zip ds').lookup z).getD d)
    | _ => .bad) else .bad) := h'
  by_cases hl : ds'.length = ks.length
  · rw [if_pos hl] at h'
    have hlv : ks.length = vs.length := by rw [rv.length, hl]
    have hm : mergeK [] (kvK ks vs) = kvK ks vs := by
      rw [merge_new _ _ (fun k _ q => by cases q)]
      · rfl
      · unfold kvK
        rw [List.map_map]
        have e2 : ((fun q : Str × V => ((Sum.inr q.1 : Key), q.2)) · |>.1) = fun q : Str × V => (Sum.inr q.1 : Key) := rfl
        have e3 : (ks.zip vs).map (Prod.fst ∘ fun q => ((Sum.inr q.1 : Key), q.2)) = ks.map Sum.inr := by
          have : (Prod.fst ∘ fun q : Str × V => ((Sum.inr q.1 : Key), q.2)) = Sum.inr ∘ Prod.fst := rfl
          rw [this, ← List.map_map, zip_fst hlv]
        rw [e3]
        exact List.Pairwise.map _ (fun _ _ q z => q (Sum.inr.inj z)) hnd
    refine ⟨k1, kvK ks vs, ?_, ?_, p, rfl, ?_⟩
    · unfold kvK
      rw [List.map_map]
      rfl
    · unfold kvK
      rw [List.length_map, List.length_zip]
      omega
    · rw [hm]
      refine ⟨.inl ⟨_, .inl upd_same⟩, ρ, F1, a.nx nf, (aft.bind (R := Rp X.K) h').imp fun d _ y F2 H2 _ _ q => ?_⟩
      obtain ⟨k, F3, _, n3, ry, q⟩ := q
      refine ⟨ρ, F3, (a.nx nf).nx n3, (aft.bind (R := Rp X.K) q).imp fun d2 _ z F4 H4 _ _ q => ?_⟩
      obtain ⟨dd, F5, _, n5, rz, q⟩ := q
      have kp : H4 p = some (.dK (kvK ks vs)) := n5.keep (n3.keep upd_same fun ps z => by cases z) fun ps z => by cases z
      cases ry with
      | str x =>
        have q : aft (Rp X.K) X.K T W σ F5 H4 Q (.ok (((ks.zip ds').lookup x).getD dd)) := q
        refine ⟨_, .inl ⟨_, Sum.inr x, .inl kp, rfl, rfl⟩, ?_⟩
        rcases val_look (z := x) (RpAll.mono (n3.f.trans n5.f) rv) hlv with ⟨v, d, w1, w2, w3⟩ | ⟨w1, w2⟩
        · rw [w1]
          rw [w2] at q
          exact q v F5 H4 (Nx.refl n5.z) w3
        · rw [w1]
          rw [w2] at q
          exact q z F5 H4 (Nx.refl n5.z) rz
      | _ => exact q.elim
  · rw [if_neg hl] at h'
    exact h'.elim
end
end DN
namespace DN
open PySem PySem.Spec PyProof.Rows L2
open LamX (Tabs ExtN)

section
variable {X : Cx} {T : List (Addr × Str)} {W : WX} {F0 H0 : Hp}
/-! ### a display of text keys, its item taken at once -/
def dixD (ks : List Str) (f : Rho → Res (List D)) (fe : Rho → Res D) : Rho → Res D := fun ρ => (f ρ).bind fun ds => if ds.length = ks.length then (fe ρ).bind fun k => (match k with
  | .str z => ofO ((ks.zip ds).lookup z)
  | _ => .bad) else .bad
theorem e_dix {pos spos : Pos} {keys : List (Option Expr)} {values : List Expr} {ks : List Str} {f : Rho → Res (List D)} {e : Expr} {fe : Rho → Res D} (hu : X.A.units + 1 < cLine) (hd : DP X T W pos keys values ks f) (he : DE X T W e fe) (h0 : keys ≠ []) (h15 : ks.length ≤ 15) (hnd : ks.Nodup) (hs : NoSl e) :
    DE X T W (.Subscript (.Dict keys values pos) e spos) (dixD ks f fe) := by
  obtain ⟨trs, h1, ht⟩ := hd.ex
  refine (pe_dget hu (pe_disp h1 hd.some hd.vlen h0 (by rw [hd.len]; exact h15)) he hs).to fun σ H Q ⟨ρ, F, a, h⟩ => ?_
  intro p hp
  have n0 : Nx T F H F (upd H p (.dK [])) := Nx.lay a.z hp
  refine ht σ _ _ ⟨ρ, F, a.nx n0, ((aft.bind (R := RpAll X.K) (aft.mono n0 h))).imp fun ds _ vs F1' H1 _ _ q => ?_⟩
  obtain ⟨ds', F1, e', n1, rv, _⟩ := q
  obtain ⟨nf, k1⟩ := nx_fill (o := .dK (kvK ks vs)) a.z hp n1
  have h' := aft.mono nf h
  unfold dixD at h'
  rw [e'] at h'
  have h' : aft (Rp X.K) X.K T W σ F1 (upd H1 p (.dK (kvK ks vs))) Q (if ds'.length = ks.length then (fe ρ).bind fun k => (match k with
    | .str z => ofO ((ks.zip ds').lookup z)
    | _ => .bad) else .bad) := h'
  by_cases hl : ds'.length = ks.length
  · rw [if_pos hl] at h'
    have hlv : ks.length = vs.length := by rw [rv.length, hl]
    have hm : mergeK [] (kvK ks vs) = kvK ks vs := by
      rw [merge_new _ _ (fun k _ q => by cases q)]
      · rfl
      · unfold kvK
        rw [List.map_map]
        have e3 : (ks.zip vs).map (Prod.fst ∘ fun q => ((Sum.inr q.1 : Key), q.2)) = ks.map Sum.inr := by
          have : (Prod.fst ∘ fun q : Str × V => ((Sum.inr q.1 : Key), q.2)) = Sum.inr ∘ Prod.fst := rfl
          rw [this, ← List.map_map, zip_fst hlv]
        rw [e3]
        exact List.Pairwise.map _ (fun _ _ q z => q (Sum.inr.inj z)) hnd
    refine ⟨k1, kvK ks vs, ?_, ?_, ?_⟩
    · unfold kvK
      rw [List.map_map]
      rfl
    · unfold kvK
      rw [List.length_map, List.length_zip]
      omega
    · rw [hm]
      refine ⟨ρ, F1, a.nx nf, (aft.bind (R := Rp X.K) h').imp fun d _ y F2 H2 _ _ q => ?_⟩
      obtain ⟨k, F3, _, n3, ry, q⟩ := q
      have kp : H2 p = some (.dK (kvK ks vs)) := n3.keep upd_same fun ps z => by cases z
      cases ry with
      | str x =>
        have q : aft (Rp X.K) X.K T W σ F3 H2 Q (ofO ((ks.zip ds').lookup x)) := q
        rcases val_look (z := x) (RpAll.mono n3.f rv) hlv with ⟨v, d, w1, w2, w3⟩ | ⟨w1, w2⟩
        · rw [w2] at q
          exact ⟨p, v, rfl, .inl ⟨_, Sum.inr x, .inl kp, rfl, w1.symm⟩, q v F3 H2 (Nx.refl n3.z) w3⟩
        · rw [w2] at q
          exact q.elim
      | _ => exact q.elim
  · rw [if_neg hl] at h'
    exact h'.elim
end
/-! ### a module's dict of texts -/
structure DicS (w : World) (K : PySem.W.Frag) (mg : Str → Option Value) (x : Str) (kvs : List (Str × Str)) : Prop where
  kd : ∃ es n, KDict K w (He.ga K x) es n ∧ es.toList.map He.keyOf = He.keysIn w.params (kvs.map Prod.fst)
  vals : ∀ q ∈ kvs, ∃ u, PySem.W.nsIn K (He.ga K x) q.1 = some (some u) ∧ RelV (.str q.2) u
  g : mg x = some (.ref (He.ga K x))
theorem dic_s {w : World} {K : PySem.W.Frag} {h : Heap} {mg : Str → Option Value} {x : Str} {kvs : List (Str × Str)} (X : K.In h) (G : h.Ns mainGlobals mg) (d : He.dicW K (He.ga K x) = some (He.keysIn w.params (kvs.map Prod.fst))) (v : He.valsB K (He.ga K x) (kvs.map fun q => (q.1, He.Dv.str q.2)) = true) (g : (He.Fa.glo x).ok K = true) : DicS w K mg x kvs :=
  ⟨dicW_full d, fun q hq => He.valsB_ok v (q := (q.1, He.Dv.str q.2)) (List.mem_map.mpr ⟨q, hq, rfl⟩), He.glo_ok X G g⟩
theorem DicS.ns {w : World} {K : PySem.W.Frag} {mg : Str → Option Value} {x : Str} {kvs : List (Str × Str)} (D : DicS w K mg x kvs) (z : Str) : ∃ r, PySem.W.nsIn K (He.ga K x) z = some r ∧ r.isSome = (kvs.map Prod.fst).contains z := by
  by_cases h : z ∈ kvs.map Prod.fst
  · obtain ⟨q, hq, rfl⟩ := List.mem_map.mp h
    obtain ⟨u, h1, _⟩ := D.vals q hq
    exact ⟨some u, h1, by rw [List.contains_iff_mem.mpr h]; rfl⟩
  · obtain ⟨es, n, kd, hk⟩ := D.kd
    obtain ⟨h1, h2⟩ := keys_miss hk h
    refine ⟨none, ?_, ?_⟩
    · unfold PySem.W.nsIn
      rw [kd.at_]
      simp only [h1, h2]
      rfl
    · have : (kvs.map Prod.fst).contains z = false := by
        rw [Bool.eq_false_iff]
        exact fun q => h (List.contains_iff_mem.mp q)
      rw [this]; rfl
def niT (ks : List Str) (f : Rho → Res D) : Rho → Res D := fun ρ => (f ρ).bind fun d => match d with
  | .str z => .ok (.bl (!ks.contains z))
  | _ => .bad
section
variable {X : Cx} {T : List (Addr × Str)} {W : WX} {F0 H0 : Hp}
theorem niS_to {w : World} {K : PySem.W.Frag} {mg : Str → Option Value} {x : Str} {kvs : List (Str × Str)} (Dd : DicS w K mg x kvs) {f : Rho → Res D} {σ : L2.St} {H : Hp} {Q : VK} (h : tE K T W (niT (kvs.map Prod.fst) f) σ H Q) :
    tOp (fun a b H Q => ∃ (z : Str) (r : Option Value), a = .str z ∧ b = .ref (He.ga K x) ∧ PySem.W.nsIn K (He.ga K x) z = some r ∧ Q (.bl (!r.isSome)) H) (tE K T W f) (tC (.ref (He.ga K x))) σ H Q := by
  obtain ⟨ρ, F, a, h⟩ := h
  refine ⟨ρ, F, a, (aft.bind (R := Rp K) h).imp fun d _ v F1 H1 _ _ q => ?_⟩
  obtain ⟨b, F2, _, n, rv, q⟩ := q
  cases rv with
  | str z =>
    obtain ⟨r, h1, h2⟩ := Dd.ns z
    refine ⟨z, r, rfl, rfl, h1, ?_⟩
    rw [h2]
    exact q (.bl _) F2 H1 (Nx.refl n.z) (.bl _)
  | _ => exact q.elim
theorem q_niS {x : Str} {kvs : List (Str × Str)} {ks : List Str} {e : Expr} {f : Rho → Res D} {p pos : Pos} (Dd : DicS X.w X.K X.mg x kvs) (hg : Gl X x) (he : DE X T W e f) (hk : kvs.map Prod.fst = ks := by rfl) (hm : behindInMarks .NotIn (.Name x p) = false := by rfl) (hd : (x == ("__debug__" : Str)) = false := by decide) :
    DQ X T W (.Compare e [.NotIn] [.Name x p] pos) (tst (niT ks f)) := by
  subst hk
  obtain ⟨es, n, kd, _⟩ := Dd.kd
  exact (pt_cmpR (op_notIn_kd kd) he (pe_glob (v := .ref (He.ga X.K x)) hg Dd.g rfl hd) hm).to fun _ _ _ h => niS_to Dd (tst_to h)
/-! ### a def of which nothing is promised: the recursion's ground -/
theorem ok_bad {P : Program} {w : World} {K : PySem.W.Frag} {mg : Str → Option Value} {base : Heap} {T : List (Addr × Str)} {k : Nat} {x qual : Str} {params : Arguments} {body : List Stmt} {scope : Scope} {N ps : List Str} {n : Nat}
    (Fd : ∃ fd, FunD K x qual params body scope [] [] (He.ga K x) fd) (hm : mg x = some (.ref (He.ga K x))) (S : FnScope N ps scope) (hn : ps.length = n)
    (hb : ∀ fd, FunD K x qual params body scope [] [] (He.ga K x) fd → Binds K fd ps []) : OkD P w K mg base T (k + 1) x n (fun _ => .bad) := by
  obtain ⟨fd, Fd⟩ := Fd
  refine ⟨⟨fd, ps, Fd.ok S (fun vs H Q E h => ?_) fun cdv A outer s0 H vs Q E hr h => ?_, hb fd Fd⟩, Fd.kp, hm⟩
  · obtain ⟨F, ds, _, _, r, hl, _⟩ := h
    rw [r.length, hl, hn]
  · obtain ⟨F, ds, _, _, _, _, h⟩ := h
    exact h.elim
end
end DN
/-! lists of the frame's own: made, appended to, stored into, read, frozen -/
namespace DN
open PySem PySem.Spec PyProof.Rows L2
open LamX (Tabs ExtN)

def D.flat : D → Bool
  | .non => true
  | .bl _ => true
  | .int _ => true
  | .str _ => true
  | _ => false
def flatR : Res D → Res D
  | .ok d => if d.flat = true then .ok d else .bad
  | r => r
def frz (i : Nat) (ρ : Rho) : Rho := match ρ[i]? with
  | some (.o (.lst ds)) => ρ.set i (.z (.lst ds))
  | _ => ρ
def bor (i : Nat) (f : Rho → Res D) : Rho → Res D := fun ρ => flatR (f (frz i ρ))
def borQ (i : Nat) (f : Rho → Res Bool) : Rho → Res Bool := fun ρ => f (frz i ρ)
theorem Rp.flat {K : PySem.W.Frag} {F F' : Hp} {v : V} {d : D} (h : Rp K F v d) (e : d.flat = true) : Rp K F' v d := by
  cases h <;> first | exact .non | exact .bl _ | exact .int _ | exact .str _ | cases e
section
variable {K : PySem.W.Frag} {T : List (Addr × Str)} {W : WX} {F0 H0 F H : Hp} {σ : L2.St} {ρ : Rho}
theorem At.frz (a : At K T F H σ ρ) (i : Nat) : ∃ F1, At K T F1 H σ (frz i ρ) ∧ Sub F F1 ∧ (∀ F' H', Nx T F1 H F' H' → Nx T F H F H') ∧ (∀ F0 H0, Nx T F0 H0 F H → Ow H0 σ ρ → Nx T F0 H0 F1 H ∧ Ow H0 σ (frz i ρ)) := by
  have triv : ∃ F1, At K T F1 H σ ρ ∧ Sub F F1 ∧ (∀ F' H', Nx T F1 H F' H' → Nx T F H F H') ∧ (∀ F0 H0, Nx T F0 H0 F H → Ow H0 σ ρ → Nx T F0 H0 F1 H ∧ Ow H0 σ ρ) :=
    ⟨F, a, Sub.refl F, fun F' H' n => ⟨Sub.refl F, ⟨n.f.trans n.z.sub, a.z.nt⟩, n.h, fun _ _ h => .inl h, n.tab⟩, fun F0 H0 n o => ⟨n, o⟩⟩
  unfold DN.frz
  split
  · rename_i ds e
    obtain ⟨p, hs, hp, xs, hx, rx⟩ := a.r.o i _ e
    have sb : Sub F (upd F p (.lst xs)) := fun b o eb => by
      rw [upd_ne fun z => by rw [z, hp] at eb; cases eb]; exact eb
    have z1 : Fz (upd F p (.lst xs)) H := ⟨fun b o eb => by
      by_cases hb : b = p
      · subst hb; rw [upd_same] at eb; rw [← eb]; exact hx
      · rw [upd_ne hb] at eb; exact a.z.sub _ _ eb, fun b ps eb => by
      by_cases hb : b = p
      · subst hb; rw [upd_same] at eb; cases eb
      · rw [upd_ne hb] at eb; exact a.z.nt _ _ eb⟩
    have il : i < ρ.length := (List.getElem?_eq_some_iff.mp e).1
    refine ⟨upd F p (.lst xs), ⟨z1, a.t, ?_⟩, sb, fun F' H' n => ⟨Sub.refl F, ⟨sb.trans (n.f.trans n.z.sub), a.z.nt⟩, n.h, fun _ _ h => .inl h, n.tab⟩, fun F0 H0 n o => ⟨⟨n.f.trans sb, z1, n.h, fun b u eb => ?_, n.tab⟩, fun j d q h1 h2 => ?_⟩⟩
    · refine ⟨by rw [List.length_set]; exact a.r.len, fun j d hj => ?_, fun j d hj => ?_, fun j k d1 d2 q1 q2 hn h1 h2 h3 h4 => ?_⟩
      · rw [List.getElem?_set] at hj
        by_cases hij : i = j
        · subst hij
          rw [if_pos rfl, if_pos il] at hj
          cases hj
          exact ⟨_, hs, .lst upd_same (rx.mono sb)⟩
        · rw [if_neg hij] at hj
          obtain ⟨v, h1, h2⟩ := a.r.z j d hj
          exact ⟨v, h1, h2.mono sb⟩
      · rw [List.getElem?_set] at hj
        by_cases hij : i = j
        · subst hij
          rw [if_pos rfl, if_pos il] at hj
          cases hj
        · rw [if_neg hij] at hj
          obtain ⟨q, h1, h2, h3⟩ := a.r.o j d hj
          have hne : p ≠ q := a.r.ne i j _ _ p q hij e hj hs h1
          refine ⟨q, h1, by rw [upd_ne (Ne.symm hne)]; exact h2, ?_⟩
          cases d with
          | lst es => obtain ⟨ys, k1, k2⟩ := h3; exact ⟨ys, k1, k2.mono sb⟩
          | dK _ => exact h3
          | dT _ => exact h3
          | dic _ _ _ _ => obtain ⟨es, k1, k2⟩ := h3; exact ⟨es, k1, k2.mono sb⟩
          | ins _ _ _ => obtain ⟨dx, ws, k1, k2⟩ := h3; exact ⟨dx, ws, k1, k2.mono sb⟩
          | _ => exact h3.elim
      · rw [List.getElem?_set] at h1 h2
        have fj : i ≠ j := fun z => by rw [if_pos z] at h1; split at h1 <;> cases h1
        have fk : i ≠ k := fun z => by rw [if_pos z] at h2; split at h2 <;> cases h2
        rw [if_neg fj] at h1
        rw [if_neg fk] at h2
        exact a.r.ne j k d1 d2 q1 q2 hn h1 h2 h3 h4
    · by_cases hb : b = p
      · subst hb
        exact .inr fun o' e' => .inl (o i _ b e hs o' e')
      · rw [upd_ne hb] at eb; exact n.new _ _ eb
    · rw [List.getElem?_set] at h1
      by_cases hij : i = j
      · subst hij
        rw [if_pos rfl, if_pos il] at h1
        cases h1
      · rw [if_neg hij] at h1
        exact o j d q h1 h2
  · exact triv
end
section
variable {X : Cx} {T : List (Addr × Str)} {W : WX} {F0 H0 : Hp}
def sfrz (i : Nat) (s : Rho → SR) : Rho → SR := fun ρ => s (frz i ρ)
end

/-! ### made -/
def aftO (K : PySem.W.Frag) (T : List (Addr × Str)) (W : WX) (σ : L2.St) (F H : Hp) (Q : V → Hp → Prop) : Res D → Prop
  | .ok (.lst ds) => ∀ p vs F' H', Nx T F H F' H' → F' p = none → H' p = some (.lst vs) → RpAll K F' vs ds → (∀ o, H p = some o → ∃ ps, o = .tbl ps) → Q (.ref p) H'
  | .ok _ => False
  | .ex n => ∀ F' H', Nx T F H F' H' → W (.ref (He.ga K n)) none σ H'
  | .bad => False
def sown (f : Rho → Res D) (i : Nat) : Rho → SR := fun ρ => bindS (f ρ) ρ fun d => match d with
  | .lst ds => .nx (ρ.set i (.o (.lst ds)))
  | _ => .bad
section
variable {K : PySem.W.Frag} {T : List (Addr × Str)} {W : WX} {F0 H0 F H : Hp} {σ : L2.St} {ρ : Rho}
theorem Rl.setO {i : Nat} {p : Addr} {vs : List V} {ds : List D} (r : Rl K F H σ ρ) (hp : F p = none) (hx : H p = some (.lst vs)) (rx : RpAll K F vs ds) (fr : ∀ (j : Nat) (d : D) (q : Addr), ρ[j]? = some (En.o d) → σ[j]? = some (some (V.ref q)) → q ≠ p) :
    Rl K F H (σ.set i (some (.ref p))) (ρ.set i (.o (.lst ds))) where
  len := by rw [List.length_set, List.length_set]; exact r.len
  z := fun j e hj => by
    rw [List.getElem?_set] at hj ⊢
    by_cases hij : i = j
    · subst hij
      rw [if_pos rfl] at hj
      split at hj <;> cases hj
    · rw [if_neg hij] at hj ⊢
      exact r.z j e hj
  o := fun j e hj => by
    rw [List.getElem?_set] at hj ⊢
    by_cases hij : i = j
    · subst hij
      rw [if_pos rfl] at hj ⊢
      by_cases hl : i < ρ.length
      · rw [if_pos hl] at hj
        rw [if_pos (by rw [r.len]; exact hl)]
        cases hj
        exact ⟨p, rfl, hp, vs, hx, rx⟩
      · rw [if_neg hl] at hj; cases hj
    · rw [if_neg hij] at hj ⊢
      exact r.o j e hj
  ne := fun j k a b q1 q2 hn h1 h2 h3 h4 => by
    rw [List.getElem?_set] at h1 h2 h3 h4
    by_cases fj : i = j
    · have fk : i ≠ k := fun z => hn (fj.symm.trans z)
      rw [if_neg fk] at h2 h4
      rw [if_pos fj] at h3
      have : q1 = p := by split at h3 <;> cases h3; rfl
      rw [this]
      exact Ne.symm (fr k _ q2 h2 h4)
    · rw [if_neg fj] at h1 h3
      by_cases fk : i = k
      · rw [if_pos fk] at h4
        have : q2 = p := by split at h4 <;> cases h4; rfl
        rw [this]
        exact fr j _ q1 h1 h3
      · rw [if_neg fk] at h2 h4
        exact r.ne j k a b q1 q2 hn h1 h2 h3 h4
theorem Ow.setO {i : Nat} {p : Addr} {d : D} (o : Ow H0 σ ρ) (hp : ∀ o, H0 p = some o → ∃ ps, o = .tbl ps) : Ow H0 (σ.set i (some (.ref p))) (ρ.set i (.o d)) := fun j e q h1 h2 => by
  rw [List.getElem?_set] at h1 h2
  by_cases hij : i = j
  · rw [if_pos hij] at h2
    have : q = p := by split at h2 <;> cases h2; rfl
    rw [this]; exact hp
  · rw [if_neg hij] at h1 h2
    exact o j e q h1 h2
/-- an own list made at p, bound to slot i -/
theorem Sg.own {F1 H1 : Hp} {i : Nat} {p : Addr} {vs : List V} {ds : List D} (g : Sg K T F0 H0 F H σ ρ) (n : Nx T F H F1 H1) (hp : F1 p = none) (hx : H1 p = some (.lst vs)) (rx : RpAll K F1 vs ds) (fr : ∀ o, H p = some o → ∃ ps, o = .tbl ps) :
    Sg K T F0 H0 F1 H1 (σ.set i (some (.ref p))) (ρ.set i (.o (.lst ds))) := by
  have g1 := g.step n
  refine ⟨⟨g1.at_.z, g1.at_.t, g1.at_.r.setO hp hx rx fun j d q h1 h2 e => ?_⟩, g1.nx, g1.ow.setO fun o ho => ?_⟩
  · obtain ⟨q', k1, k2, k3⟩ := g.at_.r.o j d h1
    rw [h2] at k1
    cases k1
    obtain ⟨o, k4, k5⟩ := k3.solid
    rw [e] at k4
    obtain ⟨ps, k6⟩ := fr o k4
    exact k5 ps k6
  · by_cases q : ∃ ps, o = .tbl ps
    · exact q
    · exact fr o (g.nx.h p o ho fun ps z => q ⟨ps, z⟩)
end
section
variable {X : Cx} {T : List (Addr × Str)} {W : WX} {F0 H0 : Hp}
theorem back_tbl {H H2 : Hp} {p : Addr} (n : ExtN H H2) (fr : ∀ o, H2 p = some o → ∃ ps, o = .tbl ps) : ∀ o, H p = some o → ∃ ps, o = .tbl ps := fun o ho => by
  by_cases q : ∃ ps, o = .tbl ps
  · exact q
  · exact fr o (n p o ho fun ps z => q ⟨ps, z⟩)
theorem aftO.bind {K : PySem.W.Frag} {σ : L2.St} {F H : Hp} {α β : Type} {R : Hp → α → β → Prop} {Q : V → Hp → Prop} {r : Res β} {k : β → Res D} (h : aftO K T W σ F H Q (r.bind k)) :
    aft R K T W σ F H (fun a H1 => ∃ b F1, r = .ok b ∧ Nx T F H F1 H1 ∧ R F1 a b ∧ aftO K T W σ F1 H1 Q (k b)) r := by
  cases r with
  | ok b =>
    refine fun a F2 H2 n ra => ⟨b, F2, rfl, n, ra, ?_⟩
    have h : aftO K T W σ F H Q (k b) := h
    cases e : k b with
    | ok d =>
      rw [e] at h
      cases d with
      | lst ds => exact fun p vs F' H' n2 hp hx rx fr => h p vs F' H' (n.trans n2) hp hx rx (back_tbl n.h fr)
      | _ => exact h.elim
    | ex m => rw [e] at h; exact fun F' H' n2 => h F' H' (n.trans n2)
    | bad => rw [e] at h; exact h.elim
  | ex m => exact h
  | bad => exact h
/-! ### appended, stored, read -/
def ownR (i : Nat) (ρ : Rho) : Res (List D) := match ρ[i]? with
  | some (.o (.lst ds)) => .ok ds
  | _ => .bad
def sapp (i : Nat) (f : Rho → Res D) : Rho → SR := fun ρ => bindS (ownR i ρ) ρ fun ds => bindS (f ρ) ρ fun d => if ds.length < sizeLine then .nx (ρ.set i (.o (.lst (ds ++ [d])))) else .bad
theorem RpAll.set {K : PySem.W.Frag} {F : Hp} : ∀ {vs : List V} {ds : List D} (n : Nat) {v : V} {d : D}, RpAll K F vs ds → Rp K F v d → RpAll K F (vs.set n v) (ds.set n d)
  | _, _, _, _, _, .nil, _ => .nil
  | _, _, 0, _, _, .cons _ t, r => .cons r t
  | _, _, n + 1, _, _, .cons h t, r => .cons h (RpAll.set n t r)
def sput (i : Nat) (fk fe : Rho → Res D) : Rho → SR := fun ρ => bindS (fe ρ) ρ fun d => bindS (ownR i ρ) ρ fun ds => bindS (fk ρ) ρ fun k => match k with
  | .int j => (match ixN ds.length j with
    | some m => .nx (ρ.set i (.o (.lst (ds.set m d))))
    | none => .bad)
  | _ => .bad
def ixO (i : Nat) (fk : Rho → Res D) : Rho → Res D := fun ρ => (ownR i ρ).bind fun ds => (fk ρ).bind fun k => match k with
  | .int j => ofO (atI ds j)
  | _ => .bad
end
end DN
/-! comprehensions with any target; lists made so are own or frozen -/
namespace DN
open PySem PySem.Spec PyProof.Rows L2
open LamX (Tabs ExtN)

theorem At.wipe {K : PySem.W.Frag} {T : List (Addr × Str)} {F H : Hp} {σ : L2.St} {ρ : Rho} (a : At K T F H σ ρ) : ∀ vs : List Nat, At K T F H (L2.wipe σ vs) (wipeR ρ vs)
  | [] => a
  | v :: vs => ⟨a.z, a.t, (At.wipe a vs).r.wipe1⟩
/-! targets that touch the slots vs alone -/
section
variable {X : Cx} {T : List (Addr × Str)} {W : WX} {F0 H0 : Hp} {vs : List Nat}
end
section
variable {X : Cx} {T : List (Addr × Str)} {W : WX} {F0 H0 : Hp}
section
variable {j : Nat} {y : Str} {py : Pos} {elt tg iter : Expr} {ifs : List Expr} {scope : Scope} {own : List (Str × Nat)} {pos spos : Pos} {f : Rho → Res (List D)} {g : Tg} {t : Rho → Res Bool} {e : Rho → Res D}
end
end
end DN
/-! min, max and index of a list of ints; evaluation of own lists -/
namespace DN
open PySem PySem.Spec PyProof.Rows L2
open LamX (Tabs ExtN)

section
variable {X : Cx} {T : List (Addr × Str)} {W : WX} {F0 H0 : Hp}
end
/-! ### evaluation -/
section
variable {ρ : Rho}
def ownRR (r : Res D) (ρ : Rho) (i : Nat) : SR := bindS r ρ fun d => match d with
  | .lst ds => .nx (ρ.set i (.o (.lst ds)))
  | _ => .bad
theorem sown_def {f : Rho → Res D} {i : Nat} : sown f i ρ = ownRR (f ρ) ρ i := rfl
theorem ownRR_ok {ds : List D} {i : Nat} : ownRR (.ok (.lst ds)) ρ i = .nx (ρ.set i (.o (.lst ds))) := rfl
theorem frz_lst {ds : List D} {r : Rho} : frz 0 (.o (.lst ds) :: r) = .z (.lst ds) :: r := rfl
theorem frz_z {d : D} {r : Rho} : frz 0 (.z d :: r) = .z d :: r := rfl
theorem frz_u {r : Rho} : frz 0 (.u :: r) = .u :: r := rfl
theorem frz_succ {i : Nat} {e : En} {r : Rho} : frz (i + 1) (e :: r) = e :: frz i r := by
  unfold frz
  rw [List.getElem?_cons_succ]
  cases r[i]? with
  | none => rfl
  | some en =>
    cases en with
    | u => rfl
    | z d => rfl
    | o d => cases d <;> rfl
theorem sfrz_def {i : Nat} {s : Rho → SR} : sfrz i s ρ = s (frz i ρ) := rfl
theorem bor_def {i : Nat} {f : Rho → Res D} : bor i f ρ = flatR (f (frz i ρ)) := rfl
theorem borQ_def {i : Nat} {f : Rho → Res Bool} : borQ i f ρ = f (frz i ρ) := rfl
theorem flat_i {i : Int} : flatR (.ok (.int i)) = .ok (.int i) := rfl
theorem flat_s {x : Str} : flatR (.ok (.str x)) = .ok (.str x) := rfl
theorem flat_b {b : Bool} : flatR (.ok (.bl b)) = .ok (.bl b) := rfl
theorem flat_n : flatR (.ok .non) = .ok .non := rfl
theorem own_zero {ds : List D} {r : Rho} : ownR 0 (.o (.lst ds) :: r) = .ok ds := rfl
theorem own_succ {i : Nat} {e : En} {r : Rho} : ownR (i + 1) (e :: r) = ownR i r := rfl
def appRR (ds : Res (List D)) (r : Res D) (ρ : Rho) (i : Nat) : SR := bindS ds ρ fun ds => bindS r ρ fun d => if ds.length < sizeLine then .nx (ρ.set i (.o (.lst (ds ++ [d])))) else .bad
theorem sapp_def {i : Nat} {f : Rho → Res D} : sapp i f ρ = appRR (ownR i ρ) (f ρ) ρ i := rfl
def putRR (v : Res D) (ds : Res (List D)) (k : Res D) (ρ : Rho) (i : Nat) : SR := bindS v ρ fun d => bindS ds ρ fun ds => bindS k ρ fun k => match k with
  | .int j => (match ixN ds.length j with
    | some m => .nx (ρ.set i (.o (.lst (ds.set m d))))
    | none => .bad)
  | _ => .bad
theorem sput_def {i : Nat} {f g : Rho → Res D} : sput i f g ρ = putRR (g ρ) (ownR i ρ) (f ρ) ρ i := rfl
def ixRR (ds : Res (List D)) (k : Res D) : Res D := ds.bind fun ds => k.bind fun k => match k with
  | .int j => ofO (atI ds j)
  | _ => .bad
theorem ixO_def {i : Nat} {f : Rho → Res D} : ixO i f ρ = ixRR (ownR i ρ) (f ρ) := rfl
end
end DN
/-! list(x) as an own list -/
namespace DN
open PySem PySem.Spec PyProof.Rows L2
open LamX (Tabs ExtN)
section
variable {X : Cx} {T : List (Addr × Str)} {W : WX}
end
end DN
/-! sorted of a list of texts -/
namespace DN
open PySem PySem.Spec PyProof.Rows L2
open LamX (Tabs ExtN)
section
variable {X : Cx} {T : List (Addr × Str)} {W : WX}
end
end DN
/-! tuples of texts whose object is known: tuple(list), len, [], in, index, + -/
namespace DN
open PySem PySem.Spec PyProof.Rows L2
open LamX (Tabs ExtN)
section
variable {X : Cx} {T : List (Addr × Str)} {W : WX}
/-! t.index(x), t a tuple whose object is known: one argument, by the kit's wpAny_Call_method1_late -/
variable {o e : Expr} {to : TE} {t : TA} {apos cpos : Pos}
end
end DN
/-! str.replace: rules where a token is out -/
namespace DN
open PySem PySem.Spec PyProof.Rows L2
open LamX (Tabs ExtN)
section
variable {X : Cx} {T : List (Addr × Str)} {W : WX} {F0 H0 : Hp}
end
end DN
/-! zip of two lists, of two tuples -/
namespace DN
open PySem PySem.Spec PyProof.Rows L2
open LamX (Tabs ExtN)
open RZ (ItzT iZipA pi_zipA)
section
variable {X : Cx} {T : List (Addr × Str)} {W : WX}
end
end DN
/-! x.replace(y, z, 1); statements behind which a token is out -/
namespace PySem
open Builtin Builtin.Str
section
variable {prog : Program} {w : World} {A : Around} {E : Value → Shared → Prop} {s : Shared} {x y z : Str} {t u v c : Tok} {Q : Value → Shared → Prop}
end
end PySem
namespace DN
open PySem PySem.Spec PyProof.Rows L2
open LamX (Tabs ExtN)
section
variable {X : Cx} {T : List (Addr × Str)} {W : WX} {F0 H0 : Hp}
end
end DN
/-! DN25: repr of nested tuples; a law whose body is read under the outermost call alone (no repr is under way there). -/
namespace DN
open PySem PySem.Spec PyProof.Rows L2
open LamX (Tabs ExtN TabB)

section
variable {X : Cx} {T : List (Addr × Str)}
end
/-! ### a law's def, read under the outermost call -/
/-! the heap at the law's entry: the script (if the head doesn't hold it) and the empty tables are tracked -/
section
variable {K : PySem.W.Frag} {cs : List (Addr × Addr)} {a b : Addr} {o : Obj} {ns : List Int} {h : Heap} {u : HO}
end
section
variable {l : PySem.W.OpenLaw} {w : World} {K : PySem.W.Frag} {n : Nat} {x : Str} {mg mb : Str → Option Value} {fa a : Addr} {fd : FuncData} {cs : List (Addr × Addr)} {sp : Sp} {s s' : Shared} {vs : List Value} {ns : List Int} {o : Obj}
end
end DN
/-! dicts of the frame's own whose keys are nested tuples -/
namespace DN
open PySem PySem.Spec PyProof.Rows L2
open LamX (Tabs ExtN)

section
variable {X : Cx} {pins : List (Addr × Obj)} {σ : L2.St} {F H : Hp} {s : Shared}
end
/-! ### looked up, stored -/
section
variable {K : PySem.W.Frag} {F : Hp} {es : List (NestedKey × Addr × V)} {ks vs : List D} {xs : List (NestedKey × Addr × Value)} {n : NestedKey}
end
/-! ### the operations, by the heap -/
section
variable {X : Cx}
theorem DicR.length {K : PySem.W.Frag} {F : Hp} {es : List (NestedKey × Addr × V)} {ks vs : List D} (r : DicR K F es ks vs) : es.length = ks.length := by
  induction r with
  | nil => rfl
  | cons _ _ _ _ _ ih => rw [List.length_cons, List.length_cons, ih]
end
/-! ### no dict is a code object -/
theorem tabs_updG {T : List (Addr × Str)} {H : Hp} {p : Addr} {o o' : HO} (h : Tabs T H) (e : H p = some o) (h1 : ∀ ps, o ≠ .tbl ps) (h2 : ∀ q, o ≠ LamX.CodeO p q) : Tabs T (upd H p o') := fun q hq => by
  obtain ⟨ps, k1, k2, k3⟩ := h q hq
  refine ⟨ps, ?_, k2, fun pos cv hc => ?_⟩
  · rw [upd_ne fun z => by rw [z, e] at k1; exact h1 ps (Option.some.inj k1)]; exact k1
  · obtain ⟨c, e1, e2⟩ := k3 pos cv hc
    refine ⟨c, e1, ?_⟩
    rw [upd_ne fun z => by subst z; rw [e] at e2; exact h2 _ (Option.some.inj e2)]; exact e2
theorem OwnAt.updN {K : PySem.W.Frag} {F H : Hp} {p q : Addr} {o : HO} (hne : q ≠ p) : ∀ {d : D}, OwnAt K F H q d → OwnAt K F (upd H p o) q d
  | .lst ds, ⟨zs, k1, k2⟩ => ⟨zs, by rw [upd_ne hne]; exact k1, k2⟩
  | .dK _, h => by show upd H p o q = _; rw [upd_ne hne]; exact h
  | .dT _, h => by show upd H p o q = _; rw [upd_ne hne]; exact h
  | .dic _ _ _ _, ⟨es, k1, k2⟩ => ⟨es, by rw [upd_ne hne]; exact k1, k2⟩
  | .ins _ _ _, ⟨dx, ws, k1, k2⟩ => ⟨dx, ws, by rw [upd_ne hne]; exact k1, k2⟩
  | .non, h => h.elim
  | .bl _, h => h.elim
  | .int _, h => h.elim
  | .str _, h => h.elim
  | .tup _, h => h.elim
  | .fn _, h => h.elim
  | .ty _, h => h.elim
  | .arr _, h => h.elim
  | .pro _, h => h.elim
  | .adr _, h => h.elim
  | .tab _ _ _, h => h.elim
section
variable {K : PySem.W.Frag} {T : List (Addr × Str)} {W : WX} {F0 H0 F H : Hp} {σ : L2.St} {ρ : Rho}
end
/-! ### by data -/
section
variable {X : Cx} {T : List (Addr × Str)} {W : WX} {F0 H0 : Hp}
end
end DN
/-! known tuples of texts: written ones, + -/
namespace DN
open PySem PySem.Spec PyProof.Rows L2
open LamX (Tabs ExtN)
section
variable {X : Cx} {T : List (Addr × Str)} {W : WX}
end
end DN
/-! M-mode: one slot holds a dict of text keys that is changed, also by callees -/
namespace DN
open PySem PySem.Spec PyProof.Rows L2
open LamX (Tabs ExtN)

/-! ### data without lists and dicts -/
mutual
def D.imm : D → Bool
  | .non => true
  | .bl _ => true
  | .int _ => true
  | .str _ => true
  | .fn _ => true
  | .ty _ => true
  | .adr _ => true
  | .pro _ => true
  | .pw _ => true
  | .tup ds => D.imms ds
  | _ => false
def D.imms : List D → Bool
  | [] => true
  | d :: ds => D.imm d && D.imms ds
end
/-- F without the addresses of S -/
def cut (F : Hp) (S : List Addr) : Hp := fun a => if a ∈ S then none else F a
theorem cut_out {F : Hp} {S : List Addr} {a : Addr} (h : a ∉ S) : cut F S a = F a := if_neg h
/-- lists and dicts alone stand there -/
def Soft (F : Hp) (S : List Addr) : Prop := ∀ a ∈ S, ∀ o, F a = some o → (∃ xs, o = .lst xs) ∨ ∃ kvs, o = .dK kvs
theorem cut_sqT {K : PySem.W.Frag} {F : Hp} {S : List Addr} {a : Addr} {xs : List V} (h : SqT K F a xs) (hs : Soft F S) : SqT K (cut F S) a xs := by
  rcases h with h | h
  · refine .inl ?_
    rcases h with h | ⟨o, h⟩
    · refine .inl ?_
      rw [cut_out fun z => ?_]; exact h
      rcases hs a z _ h with ⟨_, e⟩ | ⟨_, e⟩ <;> cases e
    · refine .inr ⟨o, ?_⟩
      rw [cut_out fun z => ?_]; exact h
      rcases hs a z _ h with ⟨_, e⟩ | ⟨_, e⟩ <;> cases e
  · exact .inr h
mutual
theorem Rp.cutS {K : PySem.W.Frag} {F : Hp} {S : List Addr} (hs : Soft F S) : ∀ {v : V} {d : D}, Rp K F v d → d.imm = true → Rp K (cut F S) v d
  | _, _, .non, _ => .non
  | _, _, .bl b, _ => .bl b
  | _, _, .int i, _ => .int i
  | _, _, .str x, _ => .str x
  | _, _, .fn x, _ => .fn x
  | _, _, .ty n, _ => .ty n
  | _, _, .lst h t, e => by unfold D.imm at e; cases e
  | _, _, .tup h t, e => .tup (cut_sqT h hs) (RpAll.cutS hs t (by unfold D.imm at e; exact e))
  | _, _, .dK h, e => by unfold D.imm at e; cases e
  | _, _, .dT h, e => by unfold D.imm at e; cases e
  | _, _, .arr h, e => by unfold D.imm at e; cases e
  | _, _, .pro ⟨o, h1, h2, h3⟩, _ => .pro ⟨o, h1, h2, by
      rw [cut_out fun z => ?_]; exact h3
      rcases hs _ z _ h3 with ⟨_, e⟩ | ⟨_, e⟩ <;> cases e⟩
  | _, _, .pw h, _ => .pw (by
      rw [cut_out fun z => ?_]; exact h
      rcases hs _ z _ h with ⟨_, e⟩ | ⟨_, e⟩ <;> cases e)
  | _, _, .adr a, _ => .adr a
  | _, _, .frm h t, e => by unfold D.imm at e; cases e
  | _, _, .tab h1 h2 h3 t, e => by unfold D.imm at e; cases e
theorem RpAll.cutS {K : PySem.W.Frag} {F : Hp} {S : List Addr} (hs : Soft F S) : ∀ {vs : List V} {ds : List D}, RpAll K F vs ds → D.imms ds = true → RpAll K (cut F S) vs ds
  | _, _, .nil, _ => .nil
  | _, _, .cons h t, e => by
    unfold D.imms at e
    rw [Bool.and_eq_true] at e
    exact .cons (Rp.cutS hs h e.1) (RpAll.cutS hs t e.2)
end
/-! ### the state -/
/-- the fields: tuples and flat things, or own lists of such (their addresses) -/
inductive Flds (K : PySem.W.Frag) (F H : Hp) : List V → List D → List Addr → Prop
  | nil : Flds K F H [] [] []
  | imm {v : V} {d : D} {vs : List V} {ds : List D} {S : List Addr} : d.imm = true → Rp K F v d → Flds K F H vs ds S → Flds K F H (v :: vs) (d :: ds) S
  | lst {a : Addr} {xs : List V} {es : List D} {vs : List V} {ds : List D} {S : List Addr} : H a = some (.lst xs) → RpAll K F xs es → D.imms es = true → Flds K F H vs ds S → Flds K F H (.ref a :: vs) (.lst es :: ds) (a :: S)
abbrev MSt := List Str × List D
structure StAt (K : PySem.W.Frag) (F H : Hp) (p : Addr) (m : MSt) (S : List Addr) : Prop where
  ex : ∃ ws S', S = p :: S' ∧ H p = some (.dK (kvK m.1 ws)) ∧ m.1.length = ws.length ∧ Flds K F H ws m.2 S'
  nd : S.Nodup
  out : ∀ a ∈ S, F a = none
  nk : m.1.Nodup
theorem Flds.solid {K : PySem.W.Frag} {F H : Hp} {ws : List V} {ds : List D} {S : List Addr} (h : Flds K F H ws ds S) : ∀ a ∈ S, ∃ xs, H a = some (.lst xs) := by
  induction h with
  | nil => intro a h; cases h
  | imm _ _ _ ih => exact ih
  | lst h _ _ _ ih =>
    intro a ha
    rcases List.mem_cons.mp ha with rfl | ha
    · exact ⟨_, h⟩
    · exact ih a ha
theorem StAt.solid {K : PySem.W.Frag} {F H : Hp} {p : Addr} {m : MSt} {S : List Addr} (h : StAt K F H p m S) : ∀ a ∈ S, ∃ o, H a = some o ∧ ((∃ xs, o = .lst xs) ∨ ∃ kvs, o = .dK kvs) := by
  obtain ⟨ws, S', rfl, h1, _, h2⟩ := h.ex
  intro a ha
  rcases List.mem_cons.mp ha with rfl | ha
  · exact ⟨_, h1, .inr ⟨_, rfl⟩⟩
  · obtain ⟨xs, e⟩ := h2.solid a ha
    exact ⟨_, e, .inl ⟨_, rfl⟩⟩
theorem StAt.soft {K : PySem.W.Frag} {F H F' H' : Hp} {p : Addr} {m : MSt} {S : List Addr} (h : StAt K F H p m S) (e : ∀ a ∈ S, ∀ o, F' a = some o → H a = some o) : Soft F' S := fun a ha o ho => by
  obtain ⟨o', h1, h2⟩ := h.solid a ha
  rw [e a ha o ho] at h1
  cases h1
  exact h2
theorem soft_nt {o : HO} (h : (∃ xs, o = .lst xs) ∨ ∃ kvs, o = .dK kvs) : ∀ ps, o ≠ .tbl ps := fun ps z => by
  rcases h with ⟨_, e⟩ | ⟨_, e⟩ <;> (rw [e] at z; cases z)
theorem StAt.mem {K : PySem.W.Frag} {F H : Hp} {p : Addr} {m : MSt} {S : List Addr} (h : StAt K F H p m S) : p ∈ S := by
  obtain ⟨_, _, rfl, _⟩ := h.ex
  exact List.mem_cons_self
theorem Flds.mono {K : PySem.W.Frag} {F H F' H' : Hp} {ws : List V} {ds : List D} {S : List Addr} (sf : Sub F F') (sh : ∀ a ∈ S, ∀ xs, H a = some (.lst xs) → H' a = some (.lst xs)) (h : Flds K F H ws ds S) : Flds K F' H' ws ds S := by
  induction h with
  | nil => exact .nil
  | imm e r _ ih => exact .imm e (r.mono sf) (ih sh)
  | lst h r e _ ih => exact .lst (sh _ List.mem_cons_self _ h) (r.mono sf) e (ih fun a ha => sh a (List.mem_cons_of_mem _ ha))
section
variable {K : PySem.W.Frag} {T : List (Addr × Str)} {W : WX} {F0 G F H F1 H1 : Hp} {σ : L2.St} {ρ : Rho} {p : Addr} {m : MSt} {S : List Addr}
theorem StAt.nx (h : StAt K F H p m S) (n : Nx T F H F1 H1) : StAt K F1 H1 p m S where
  ex := by
    obtain ⟨ws, S', e, h1, hl, h2⟩ := h.ex
    exact ⟨ws, S', e, n.keep h1 (fun ps z => by cases z), hl, h2.mono n.f fun a _ xs e => n.keep e fun ps z => by cases z⟩
  nd := h.nd
  nk := h.nk
  out := fun a ha => by
    obtain ⟨o, h1, h2⟩ := h.solid a ha
    exact n.out h1 (soft_nt h2) (h.out a ha) fun xs z => by rcases h2 with ⟨_, e⟩ | ⟨_, e⟩ <;> (rw [e] at z; cases z)
/-! ### lent: the state stands in the frozen part for a while -/
def lend (F H : Hp) (S : List Addr) : Hp := fun a => if a ∈ S then H a else F a
theorem lend_in {a : Addr} (h : a ∈ S) : lend F H S a = H a := if_pos h
theorem lend_out {a : Addr} (h : a ∉ S) : lend F H S a = F a := if_neg h
theorem lend_sub (h : ∀ a ∈ S, F a = none) : Sub F (lend F H S) := fun a o e => by
  rw [lend_out fun z => by rw [h a z] at e; cases e]; exact e
theorem lend_z (z : Fz F H) (h : StAt K F H p m S) : Fz (lend F H S) H where
  sub := fun a o e => by
    by_cases ha : a ∈ S
    · rw [lend_in ha] at e; exact e
    · rw [lend_out ha] at e; exact z.sub a o e
  nt := fun a ps e => by
    by_cases ha : a ∈ S
    · rw [lend_in ha] at e
      obtain ⟨o, h1, h2⟩ := h.solid a ha
      rw [e] at h1; cases h1
      exact soft_nt h2 ps rfl
    · rw [lend_out ha] at e; exact z.nt a ps e
theorem lend_flds {ws : List V} {ds : List D} {S' : List Addr} (sb : ∀ a ∈ S', a ∈ S) (sf : Sub F (lend F H S)) (h : Flds K F H ws ds S') : RpAll K (lend F H S) ws ds := by
  induction h with
  | nil => exact .nil
  | imm e r _ ih => exact .cons (r.mono sf) (ih sb)
  | lst h r e _ ih => exact .cons (.lst (by rw [lend_in (sb _ List.mem_cons_self)]; exact h) (r.mono sf)) (ih fun a ha => sb a (List.mem_cons_of_mem _ ha))
theorem lend_rp (h : StAt K F H p m S) : Rp K (lend F H S) (.ref p) (.tab (some p) m.1 m.2) := by
  obtain ⟨ws, S', e, h1, hl, h2⟩ := h.ex
  exact .tab (fun q e => Option.some.inj e) (by rw [lend_in h.mem]; exact h1) hl (lend_flds (fun a ha => by rw [e]; exact List.mem_cons_of_mem _ ha) (lend_sub h.out) h2)
end
end DN
namespace DN
open PySem PySem.Spec PyProof.Rows L2
open LamX (Tabs ExtN)

/-! ### M-mode: statements -/
inductive SM where
  | nx (ρ : Rho) (m : MSt) | fin (b : Bool) (m : MSt) | rt (d : D) | ex (n : Str) | bad
def Free (G : Hp) (S : List Addr) : Prop := ∀ a ∈ S, ∀ o, G a = some o → ∃ ps, o = HO.tbl ps
structure Mg (K : PySem.W.Frag) (T : List (Addr × Str)) (F0 G F H : Hp) (σ : L2.St) (ρ : Rho) (i : Nat) (p : Addr) (m : MSt) (S : List Addr) : Prop where
  at_ : At K T F H σ ρ
  nx : Nx T F0 G F H
  no : ∀ (j : Nat) (d : D), ρ[j]? ≠ some (En.o d)
  me : ρ[i]? = some (En.z (.adr p))
  st : StAt K F H p m S
  fr : Free G S
def aftM (K : PySem.W.Frag) (T : List (Addr × Str)) (W : WX) (F0 G F : Hp) (i : Nat) (p : Addr) (Z : Ends) : SM → Prop
  | .nx ρ m => ∀ σ F' H' S, Mg K T F0 G F' H' σ ρ i p m S → Sub F F' → Z.nx σ H'
  | .fin b m => ∀ F' H' S, Nx T F0 G F' H' → StAt K F' H' p m S → Free G S → Z.rt (if b = true then .ref p else .non) H'
  | .rt d => ∀ v F' H', Nx T F0 G F' H' → Rp K F' v d → Z.rt v H'
  | .ex n => ∀ σ F' H', Nx T F0 G F' H' → W (.ref (He.ga K n)) none σ H'
  | .bad => False
section
variable {K : PySem.W.Frag} {T : List (Addr × Str)} {W : WX} {F0 G F H F1 H1 : Hp} {σ : L2.St} {ρ : Rho} {i : Nat} {p : Addr} {m : MSt} {S : List Addr} {Z : Ends}
theorem aftM.mono {r : SM} (e : Sub F F1) (h : aftM K T W F0 G F i p Z r) : aftM K T W F0 G F1 i p Z r := by
  cases r with
  | nx ρ m => exact fun σ F' H' S g s => h σ F' H' S g (e.trans s)
  | fin b m => exact h
  | rt d => exact h
  | ex n => exact h
  | bad => exact h
theorem Mg.step (g : Mg K T F0 G F H σ ρ i p m S) (n : Nx T F H F1 H1) : Mg K T F0 G F1 H1 σ ρ i p m S := ⟨g.at_.nx n, g.nx.trans n, g.no, g.me, g.st.nx n, g.fr⟩
end
def adrOf (i : Nat) (ρ : Rho) : Option Addr := match ρ[i]? with
  | some (.z (.adr p)) => some p
  | _ => none
theorem adrOf_me {i : Nat} {ρ : Rho} {p : Addr} (h : ρ[i]? = some (En.z (.adr p))) : adrOf i ρ = some p := by
  unfold adrOf; rw [h]
def lent (i : Nat) (ρ : Rho) (m : MSt) : Rho := match adrOf i ρ with
  | some p => ρ.set i (.z (.tab (some p) m.1 m.2))
  | none => ρ
section
variable {K : PySem.W.Frag} {T : List (Addr × Str)} {W : WX} {F0 G F H F1 H1 : Hp} {σ : L2.St} {ρ : Rho} {i : Nat} {p : Addr} {m : MSt} {S : List Addr} {Z : Ends}
theorem lent_me (h : ρ[i]? = some (En.z (.adr p))) : lent i ρ m = ρ.set i (.z (.tab (some p) m.1 m.2)) := by
  unfold lent; rw [adrOf_me h]
theorem Mg.lent (g : Mg K T F0 G F H σ ρ i p m S) : At K T (lend F H S) H σ (DN.lent i ρ m) := by
  rw [lent_me g.me]
  have sb := lend_sub (H := H) g.st.out
  obtain ⟨v, h1, h2⟩ := g.at_.r.z i _ g.me
  cases h2
  have r : Rl K (lend F H S) H σ ρ := ⟨g.at_.r.len, fun j d e => let ⟨v, h1, h2⟩ := g.at_.r.z j d e; ⟨v, h1, h2.mono sb⟩, fun j d e => absurd e (g.no j d), fun j k d e q1 q2 _ h => absurd h (g.no j d)⟩
  have il : i < ρ.length := (List.getElem?_eq_some_iff.mp g.me).1
  have e : σ.set i (some (V.ref p)) = σ := by
    refine List.ext_getElem? fun j => ?_
    rw [List.getElem?_set]
    split
    · rename_i hij; subst hij
      rw [if_pos (by rw [g.at_.r.len]; exact il), h1]
    · rfl
  have := r.set (i := i) (lend_rp g.st)
  rw [e] at this
  exact ⟨lend_z g.at_.z g.st, g.at_.t, this⟩
end
section
variable {X : Cx} {T : List (Addr × Str)} {W : WX} {F0 G : Hp} {i : Nat}
theorem Mg.adr {K : PySem.W.Frag} {F H : Hp} {σ : L2.St} {ρ : Rho} {p q : Addr} {m m' : MSt} {S S' : List Addr} {F1 H1 : Hp} (g : Mg K T F0 G F H σ ρ i p m S) (e : ρ[i]? = some (En.z (.adr q))) : p = q := by
  rw [g.me] at e; cases e; rfl
end
end DN
namespace DN
open PySem PySem.Spec PyProof.Rows L2
open LamX (Tabs ExtN)

/-! ### the state is changed -/
def fset {α : Type} : List Str → List α → Str → α → List α
  | k :: ks, w :: ws, x, v => (if k = x then v else w) :: fset ks ws x v
  | _, ws, _, _ => ws
def fget {α : Type} : List Str → List α → Str → Option α
  | k :: ks, w :: ws, x => if k = x then some w else fget ks ws x
  | _, _, _ => none
theorem fset_out {α : Type} : ∀ (ks : List Str) (ws : List α) (x : Str) (v : α), x ∉ ks → fset ks ws x v = ws
  | [], _, _, _, _ => rfl
  | _ :: _, [], _, _, _ => rfl
  | k :: ks, w :: ws, x, v, h => by
    show (if k = x then v else w) :: fset ks ws x v = _
    rw [if_neg fun e => h (by rw [e]; exact List.mem_cons_self), fset_out ks ws x v fun e => h (List.mem_cons_of_mem _ e)]
section
variable {K : PySem.W.Frag} {T : List (Addr × Str)} {W : WX} {F0 G F H F1 H1 : Hp} {σ : L2.St} {ρ : Rho} {i : Nat} {p : Addr} {m m' : MSt} {S S' : List Addr} {Z : Ends}
theorem Flds.length {ws : List V} {ds : List D} (h : Flds K F H ws ds S) : ws.length = ds.length := by
  induction h with
  | nil => rfl
  | imm _ _ _ ih => rw [List.length_cons, List.length_cons, ih]
  | lst _ _ _ _ ih => rw [List.length_cons, List.length_cons, ih]
theorem soft_code {o : HO} {a : Addr} (h : (∃ xs, o = .lst xs) ∨ ∃ kvs, o = .dK kvs) : ∀ q, o ≠ LamX.CodeO a q := fun q z => by
  unfold LamX.CodeO at z
  rcases h with ⟨_, e⟩ | ⟨_, e⟩ <;> (rw [e] at z; cases z)
theorem Mg.put {q : Addr} {o' : HO} (g : Mg K T F0 G F H σ ρ i p m S) (hq : q ∈ S) (st : StAt K F (upd H q o') p m' S') (fr : Free G S') : Mg K T F0 G F (upd H q o') σ ρ i p m' S' := by
  obtain ⟨o, h1, h2⟩ := g.st.solid q hq
  have fq := g.st.out q hq
  have z1 : Fz F (upd H q o') := ⟨fun b u eb => by
    rw [upd_ne fun z => by rw [z, fq] at eb; cases eb]; exact g.at_.z.sub _ _ eb, g.at_.z.nt⟩
  refine ⟨⟨z1, tabs_updG g.at_.t h1 (soft_nt h2) (soft_code h2), ⟨g.at_.r.len, g.at_.r.z, fun j d e => absurd e (g.no j d), fun j k d e q1 q2 _ h => absurd h (g.no j d)⟩⟩, ⟨g.nx.f, z1, fun b u eb no => ?_, g.nx.new, fun t => tabs_updG (g.nx.tab t) h1 (soft_nt h2) (soft_code h2)⟩, g.no, g.me, st, fr⟩
  rw [upd_ne fun z => by
    subst z
    obtain ⟨ps, k⟩ := g.fr b hq u eb
    exact no ps k]
  exact g.nx.h _ _ eb no
end
section
variable {X : Cx} {T : List (Addr × Str)} {W : WX} {F0 G : Hp} {i : Nat}
end
end DN
namespace DN
open PySem PySem.Spec PyProof.Rows L2
open LamX (Tabs ExtN)

/-! ### a dict of text keys is read -/
section
variable {X : Cx} {T : List (Addr × Str)} {W : WX} {F0 G : Hp} {i : Nat}
/-! ### an own list of the state is changed -/
/-- the list of the field k -/
theorem Flds.at_ {K : PySem.W.Frag} {F H : Hp} {x : Str} {ws : List V} {ds : List D} {S : List Addr} (h : Flds K F H ws ds S) : S.Nodup → ∀ (ks : List Str), ks.Nodup → ∀ {es : List D}, fget ks ds x = some (.lst es) →
    ∃ a xs, fget ks ws x = some (.ref a) ∧ a ∈ S ∧ H a = some (.lst xs) ∧ RpAll K F xs es ∧ D.imms es = true ∧
      ∀ ys fs, RpAll K F ys fs → D.imms fs = true → Flds K F (upd H a (.lst ys)) ws (fset ks ds x (.lst fs)) S := by
  induction h with
  | nil => intro _ ks _ es e; cases ks <;> cases e
  | @imm v0 d0 vs ds S hi r0 h ih =>
    intro nd ks nk es e
    cases ks with
    | nil => cases e
    | cons k ks =>
      rw [List.nodup_cons] at nk
      have e : (if k = x then some d0 else fget ks ds x) = some (.lst es) := e
      by_cases hk : k = x
      · rw [if_pos hk] at e
        cases e
        unfold D.imm at hi; cases hi
      · rw [if_neg hk] at e
        obtain ⟨a, xs, h1, h2, h3, h4, h5, h6⟩ := ih nd ks nk.2 e
        refine ⟨a, xs, ?_, h2, h3, h4, h5, fun ys fs r hf => ?_⟩
        · show (if k = x then some v0 else fget ks vs x) = _
          rw [if_neg hk]; exact h1
        · show Flds K F _ _ ((if k = x then D.lst fs else d0) :: _) S
          rw [if_neg hk]
          exact .imm hi r0 (h6 ys fs r hf)
  | @lst a xs es0 vs ds S hx r0 hi h ih =>
    intro nd ks nk es e
    have nd' := List.nodup_cons.mp nd
    cases ks with
    | nil => cases e
    | cons k ks =>
      rw [List.nodup_cons] at nk
      have e : (if k = x then some (D.lst es0) else fget ks ds x) = some (.lst es) := e
      by_cases hk : k = x
      · rw [if_pos hk] at e
        cases e
        refine ⟨a, xs, ?_, List.mem_cons_self, hx, r0, hi, fun ys fs r hf => ?_⟩
        · show (if k = x then some (V.ref a) else fget ks vs x) = _
          rw [if_pos hk]
        · show Flds K F _ _ ((if k = x then D.lst fs else D.lst es0) :: fset ks ds x (.lst fs)) (a :: S)
          rw [if_pos hk, fset_out ks ds x _ (by rw [← hk]; exact nk.1)]
          exact .lst upd_same r hf (h.mono (Sub.refl F) fun b hb zs q => by rw [upd_ne fun z => nd'.1 (by rw [← z]; exact hb)]; exact q)
      · rw [if_neg hk] at e
        obtain ⟨b, zs, h1, h2, h3, h4, h5, h6⟩ := ih nd'.2 ks nk.2 e
        refine ⟨b, zs, ?_, List.mem_cons_of_mem _ h2, h3, h4, h5, fun ys fs r hf => ?_⟩
        · show (if k = x then some (V.ref a) else fget ks vs x) = _
          rw [if_neg hk]; exact h1
        · show Flds K F _ _ ((if k = x then D.lst fs else D.lst es0) :: _) (a :: S)
          rw [if_neg hk]
          exact .lst (by rw [upd_ne fun z => nd'.1 (by rw [z]; exact h2)]; exact hx) r0 hi (h6 ys fs r hf)
theorem StAt.at_ {K : PySem.W.Frag} {F H : Hp} {p : Addr} {m : MSt} {S : List Addr} {x : Str} {es : List D} (h : StAt K F H p m S) (e : fget m.1 m.2 x = some (.lst es)) :
    ∃ ws a xs, H p = some (.dK (kvK m.1 ws)) ∧ fget m.1 ws x = some (.ref a) ∧ a ∈ S ∧ H a = some (.lst xs) ∧ RpAll K F xs es ∧ D.imms es = true ∧
      ∀ ys fs, RpAll K F ys fs → D.imms fs = true → StAt K F (upd H a (.lst ys)) p (m.1, fset m.1 m.2 x (.lst fs)) S := by
  obtain ⟨ws, S0, rfl, h1, hl, h2⟩ := h.ex
  have nd := List.nodup_cons.mp h.nd
  obtain ⟨a, xs, k1, k2, k3, k4, k5, k6⟩ := h2.at_ nd.2 m.1 h.nk e
  refine ⟨ws, a, xs, h1, k1, List.mem_cons_of_mem _ k2, k3, k4, k5, fun ys fs r hf => ⟨⟨ws, S0, rfl, ?_, hl, k6 ys fs r hf⟩, h.nd, h.out, h.nk⟩⟩
  rw [upd_ne fun z => nd.1 (by rw [z]; exact k2)]; exact h1
end
end DN
namespace DN
open PySem PySem.Spec PyProof.Rows L2
open LamX (Tabs ExtN)

/-! ### procedures and makers -/
section
variable {K : PySem.W.Frag} {T : List (Addr × Str)} {W : WX} {F0 G F H F1 H1 : Hp} {σ : L2.St} {ρ : Rho} {i : Nat} {p : Addr} {m m' : MSt} {S S' : List Addr} {Z : Ends}
theorem cut_tabs (t : Tabs T H) (hs : Soft H S) : Tabs T (cut H S) := fun q hq => by
  obtain ⟨ps, k1, k2, k3⟩ := t q hq
  refine ⟨ps, ?_, k2, fun pos cv hc => ?_⟩
  · rw [cut_out fun z => soft_nt (hs _ z _ k1) ps rfl]; exact k1
  · obtain ⟨c, e1, e2⟩ := k3 pos cv hc
    refine ⟨c, e1, ?_⟩
    rw [cut_out fun z => soft_code (hs _ z _ e2) _ rfl]; exact e2
theorem StAt.softH (h : StAt K F H p m S) : Soft H S := h.soft (F' := H) (H' := H) fun _ _ _ e => e
theorem Mg.after (g : Mg K T F0 G F H σ ρ i p m S) (n : Nx T F (cut H S) F1 H1) (st : StAt K F1 H1 p m' S') (fr : Free (cut H S) S') : Mg K T F0 G F1 H1 σ ρ i p m' S' := by
  have old : ∀ a o, G a = some o → (∀ ps, o ≠ .tbl ps) → cut H S a = some o := fun a o e no => by
    rw [cut_out fun z => by
      obtain ⟨ps, q⟩ := g.fr a z o e
      exact no ps q]
    exact g.nx.h a o e no
  refine ⟨⟨n.z, n.tab (cut_tabs g.at_.t g.st.softH), ⟨g.at_.r.len, fun j d e => let ⟨v, h1, h2⟩ := g.at_.r.z j d e; ⟨v, h1, h2.mono n.f⟩, fun j d e => absurd e (g.no j d), fun j k d e q1 q2 _ h => absurd h (g.no j d)⟩⟩,
    ⟨g.nx.f.trans n.f, n.z, fun a o e no => n.h a o (old a o e no) no, fun a o e => ?_, fun t => n.tab (cut_tabs (g.nx.tab t) g.st.softH)⟩, g.no, g.me, st, fun a ha o e => ?_⟩
  · rcases n.new a o e with q | q
    · exact g.nx.new a o q
    · refine .inr fun o' e' => ?_
      by_cases z : ∃ ps, o' = .tbl ps
      · exact .inl z
      · exact q o' (old a o' e' fun ps y => z ⟨ps, y⟩)
  · by_cases z : ∃ ps, o = .tbl ps
    · exact z
    · exact fr a ha o (old a o e fun ps y => z ⟨ps, y⟩)
end
section
variable {X : Cx} {T : List (Addr × Str)} {W : WX} {F0 G : Hp} {i : Nat}
end
/-! a def whose body goes over to M-mode: for every address p -/
section
variable {P : Program} {w : World} {K : PySem.W.Frag} {mg : Str → Option Value} {base : Heap} {T : List (Addr × Str)} {k : Nat} {x qual : Str} {params : Arguments} {body : List Stmt} {scope : Scope} {kws : List (Str × V)} {f : Addr} {fd : FuncData} {N ps : List Str} {n i : Nat} {s : Rho → Addr → SM}
end
section
variable {X : Cx} {T : List (Addr × Str)} {W : WX} {F0 H0 : Hp} {i : Nat}
end
end DN
/-! M-mode: for, update, a state made by a display or by dict(pairs); own lists by +, * and by choice -/
namespace DN
open PySem PySem.Spec PyProof.Rows L2
open LamX (Tabs ExtN)

section
variable {X : Cx} {T : List (Addr × Str)} {W : WX} {F0 G : Hp} {i : Nat}
end
/-! ### own lists by + and *, and one of two -/
section
variable {X : Cx} {T : List (Addr × Str)} {W : WX} {F0 G : Hp} {i : Nat}
end
end DN
namespace DN
open PySem PySem.Spec PyProof.Rows L2
open LamX (Tabs ExtN)
section
variable {X : Cx} {T : List (Addr × Str)} {W : WX} {F0 G : Hp} {i : Nat}
theorem aftO.mono {K : PySem.W.Frag} {σ : L2.St} {F H F1 H1 : Hp} {Q : V → Hp → Prop} {r : Res D} (n : Nx T F H F1 H1) (h : aftO K T W σ F H Q r) : aftO K T W σ F1 H1 Q r := by
  cases r with
  | ok d =>
    cases d with
    | lst ds => exact fun p vs F' H' n2 hp hx rx fr => h p vs F' H' (n.trans n2) hp hx rx (back_tbl n.h fr)
    | _ => exact h
  | ex m => exact fun F' H' n2 => h F' H' (n.trans n2)
  | bad => exact h
end
end DN
/-! M-mode: the state's update; a state made by a display -/
namespace DN
open PySem PySem.Spec PyProof.Rows L2
open LamX (Tabs ExtN)
/-! ### a field put, there or not -/
section
variable {K : PySem.W.Frag} {T : List (Addr × Str)} {W : WX} {F0 G F H F1 H1 : Hp} {σ : L2.St} {ρ : Rho} {i : Nat} {p : Addr} {m m' : MSt} {S S' : List Addr} {Z : Ends}
theorem StAt.kvs (h : StAt K F H p m S) : ∃ ws, H p = some (.dK (kvK m.1 ws)) ∧ m.1.length = ws.length := by
  obtain ⟨ws, S0, _, h1, hl, _⟩ := h.ex
  exact ⟨ws, h1, hl⟩
end
section
variable {X : Cx} {T : List (Addr × Str)} {W : WX} {F0 G : Hp} {i : Nat}
end
/-! ### a state made by a display -/
section
variable {X : Cx} {T : List (Addr × Str)} {W : WX} {F0 G : Hp} {i : Nat}
end
end DN
/-! list(zip(a, b)): every pair that was handed out is still held by the list -/
namespace DN
open PySem PySem.Spec PyProof.Rows L2
open LamX (Tabs ExtN)
namespace LZ
/-- a zip whose pair T is out -/
abbrev Out (h : Heap) (z TI TO T : Addr) (f : Bool) : Prop := h.get? z = some { cls := .type "zip", data := .fields #[rawInt T, .bool f, .bool false, .ref TI, .ref TO] }
section
variable {prog : Program} {w : World} {A : Around} {E : Value → Shared → Prop} {s : Shared} {z TI TO i1 i2 T : Addr} {fp1 fp2 : List Addr} {n1 n2 i : Nat} {P1 P2 : Nat → Value → Prop} {St1 St2 : Nat → Heap → Prop} {a1 a2 : Value} {f : Bool}
/-- the zip's look at its own pair: it is held elsewhere, and the zip marks that -/
theorem own_out {Q : Bool → Shared → Prop} (hz : Out s.heap z TI TO T f) (hT : ∃ o, s.heap.get? T = some o)
    (hQ : ∀ h', Out h' z TI TO T true → Heap.SameBut z s.heap h' → Q false { s with heap := h' }) : wpAny (model prog w) A (Builtin.SmallTypes.ownedTupleIsFree (.ref z)) Q E s :=
  hT.elim fun _ t => PySem.wpAny_tupleHeld_zip hz t hQ
theorem body_out {Q : PySem.Fin → Shared → Prop} (S : ZipSep2 z TI TO i1 i2 fp1 fp2) (D1 : Draws prog w A i1 fp1 n1 P1 St1) (D2 : Draws prog w A i2 fp2 n2 P2 St2) (hz : Out s.heap z TI TO T f) (hT : ∃ o, s.heap.get? T = some o) (hI : IsTupOf2 s.heap TI (.ref i1) (.ref i2)) (st1 : St1 i s.heap) (st2 : St2 i s.heap) (l1 : i < n1) (l2 : i < n2)
    (hQ : ∀ x1 x2 h' tk, P1 i x1 → P2 i x2 → Out h' z TI TO T true → St1 (i + 1) h' → St2 (i + 1) h' → IsTupOf2 h' s.heap.objs.size x1 x2 → (∀ c o, c ≠ z → c ≠ i1 → c ≠ i2 → s.heap.get? c = some o → h'.get? c = some o) → Q (.done (.ret (.ref s.heap.objs.size))) { s with heap := h', toks := tk }) :
    wpAny (model prog w) A (Builtin.«zip.__next__» ⟨[.ref z], []⟩) Q E s := by
  have f2 : ∀ {R : Value → Shared → Prop}, R (.bool false) s → wpAny (model prog w) A (field (.ref z) 2) R E s := fun q => wpAny_field hz rfl rfl q
  have f3 : ∀ {R : Value → Shared → Prop}, R (.ref TI) s → wpAny (model prog w) A (field (.ref z) 3) R E s := fun q => wpAny_field hz rfl rfl q
  unfold Builtin.«zip.__next__»
  wp_walk using f2, f3, wpAny_seqItems hI rfl, own_out hz hT
  intro g0 hz0 b0
  have k1 := D1.over st1 b0 S.zf1
  have k2 := D2.over st2 b0 S.zf2
  have d1 : ∀ {R : Value → Shared → Prop}, (∀ x h' tk, P1 i x → St1 (i + 1) h' → Heap.SameBut i1 g0 h' → R x { s with heap := h', toks := tk }) → wpAny (model prog w) A (Builtin.SmallTypes.nextOf (.ref i1)) R E { s with heap := g0 } := fun k => D1.item i { s with heap := g0 } _ E l1 k1 k
  have d2 : ∀ {R : Value → Shared → Prop} (h : Heap) (tk : Nat), St2 i h → (∀ x h' tk, P2 i x → St2 (i + 1) h' → Heap.SameBut i2 h h' → R x { s with heap := h', toks := tk }) → wpAny (model prog w) A (Builtin.SmallTypes.nextOf (.ref i2)) R E { s with heap := h, toks := tk } :=
    fun h tk k2 k => D2.item i { s with heap := h, toks := tk } _ E l2 k2 k
  simp only [Bool.false_eq_true, if_false, ← Array.forIn_toList, List.forIn_cons, List.forIn_nil]
  wp_walk using d1
  intro x1 g1 t1 y1 m1 b1
  wp_walk using d2 g1 t1 (D2.over k2 b1 S.sep1_2)
  intro x2 g2 t2 y2 m2 b2
  wp_walk using wpAny_newTuple
  case hsz => exact (by decide : 2 ≤ sizeLine)
  have size : g2.objs.size = s.heap.objs.size := b2.1.trans (b1.1.trans b0.1)
  have still : ∀ c o, c ≠ i1 → c ≠ i2 → g0.get? c = some o → (g2.push { cls := .type "tuple", data := .seq #[x1, x2] }).get? c = some o := fun c o c1 c2 e => Heap.get?_push_of_some _ (b2.extBut _ _ c2 (b1.extBut _ _ c1 e))
  have made := Heap.get?_push_size g2 (o := { cls := .type "tuple", data := .seq #[x1, x2] }) rfl
  show Q (.done (.ret (.ref g2.objs.size))) _
  rw [size] at made ⊢
  exact hQ x1 x2 _ t2 y1 y2 (still _ _ S.zi1 S.zi2 hz0) (D1.frame _ _ _ (D1.over m1 b2 S.sep2_1) fun _ _ _ => Heap.get?_push_of_some _) (D2.frame _ _ _ m2 fun _ _ _ => Heap.get?_push_of_some _) made fun c o c0 c1 c2 e => still c o c1 c2 (b0.extBut _ _ c0 e)
/-- one more pair -/
theorem next_out {Q : Option Value → Shared → Prop} (S : ZipSep2 z TI TO i1 i2 fp1 fp2) (D1 : Draws prog w A.in1 i1 fp1 n1 P1 St1) (D2 : Draws prog w A.in1 i2 fp2 n2 P2 St2) (hz : Out s.heap z TI TO T f) (hT : ∃ o, s.heap.get? T = some o) (hI : IsTupOf2 s.heap TI (.ref i1) (.ref i2)) (st1 : St1 i s.heap) (st2 : St2 i s.heap) (l1 : i < n1) (l2 : i < n2)
    (hQ : ∀ x1 x2 h' tk, P1 i x1 → P2 i x2 → Out h' z TI TO T true → St1 (i + 1) h' → St2 (i + 1) h' → IsTupOf2 h' s.heap.objs.size x1 x2 → (∀ c o, c ≠ z → c ≠ i1 → c ≠ i2 → s.heap.get? c = some o → h'.get? c = some o) → Q (some (.ref s.heap.objs.size)) { s with heap := h', toks := tk }) :
    wpAny (model prog w) A (pyNext (.ref z)) Q E s := by
  have ty : s.TypeIs (.ref z) "zip" := ⟨_, hz, rfl⟩
  unfold pyNext
  refine wpAny_bind (wpAny_attempt (wpAny_callSpecial?_slot (name := Str.ofString "__next__") ty F.slot_zip_next (wpAny_call_entry F.slot_zip_next ty F.entry_zip_next
    (body_out S D1 D2 hz hT hI st1 st2 l1 l2 fun x1 x2 h' tk p1 p2 o m1 m2 t k => ⟨_, rfl, wpAny_pure (hQ x1 x2 h' tk p1 p2 o m1 m2 t k)⟩) (F.args_zip_next_1 _))))
/-- one of the two is at its end: the zip hands its end on -/
theorem body_end {Q : PySem.Fin → Shared → Prop} (S : ZipSep2 z TI TO i1 i2 fp1 fp2) (D1 : Draws prog w A i1 fp1 n1 P1 St1) (D2 : Draws prog w A i2 fp2 n2 P2 St2) (hz : Out s.heap z TI TO T f) (hT : ∃ o, s.heap.get? T = some o) (hI : IsTupOf2 s.heap TI (.ref i1) (.ref i2)) (st1 : St1 i s.heap) (st2 : St2 i s.heap) (l1 : i ≤ n1) (l2 : i ≤ n2) (le : i = n1 ∨ i = n2)
    (hE : ∀ (e : Addr) h' tk, (∃ o, h'.get? e = some o ∧ o.cls = .type "StopIteration") → (∀ c o, c ≠ z → c ≠ i1 → c ≠ i2 → s.heap.get? c = some o → h'.get? c = some o) → E (.ref e) { s with heap := h', toks := tk }) :
    wpAny (model prog w) A (Builtin.«zip.__next__» ⟨[.ref z], []⟩) Q E s := by
  have f2 : ∀ {R : Value → Shared → Prop}, R (.bool false) s → wpAny (model prog w) A (field (.ref z) 2) R E s := fun q => wpAny_field hz rfl rfl q
  have f3 : ∀ {R : Value → Shared → Prop}, R (.ref TI) s → wpAny (model prog w) A (field (.ref z) 3) R E s := fun q => wpAny_field hz rfl rfl q
  unfold Builtin.«zip.__next__»
  wp_walk using f2, f3, wpAny_seqItems hI rfl, own_out hz hT
  intro g0 hz0 b0
  have k1 := D1.over st1 b0 S.zf1
  have k2 := D2.over st2 b0 S.zf2
  simp only [Bool.false_eq_true, if_false, ← Array.forIn_toList, List.forIn_cons, List.forIn_nil]
  by_cases last : i = n1
  · have d1 : ∀ {R : Value → Shared → Prop}, wpAny (model prog w) A (Builtin.SmallTypes.nextOf (.ref i1)) R E { s with heap := g0 } :=
      fun {R} => D1.done { s with heap := g0 } R E (last ▸ k1) fun h' e b x => hE e h' s.toks x fun c o c0 c1 _ y => b _ _ c1 (b0.extBut _ _ c0 y)
    wp_walk using d1
  · have d1 : ∀ {R : Value → Shared → Prop}, (∀ x h' tk, P1 i x → St1 (i + 1) h' → Heap.SameBut i1 g0 h' → R x { s with heap := h', toks := tk }) → wpAny (model prog w) A (Builtin.SmallTypes.nextOf (.ref i1)) R E { s with heap := g0 } :=
      fun k => D1.item i { s with heap := g0 } _ E (by omega) k1 k
    wp_walk using d1
    intro x1 g1 t1 y1 m1 b1
    have d2 : ∀ {R : Value → Shared → Prop}, wpAny (model prog w) A (Builtin.SmallTypes.nextOf (.ref i2)) R E { s with heap := g1, toks := t1 } :=
      fun {R} => D2.done { s with heap := g1, toks := t1 } R E (le.resolve_left last ▸ D2.over k2 b1 S.sep1_2) fun h' e b x => hE e h' t1 x fun c o c0 c1 c2 y => b _ _ c2 (b1.extBut _ _ c1 (b0.extBut _ _ c0 y))
    wp_walk using d2
theorem end_out {Q : Option Value → Shared → Prop} (S : ZipSep2 z TI TO i1 i2 fp1 fp2) (D1 : Draws prog w A.in1 i1 fp1 n1 P1 St1) (D2 : Draws prog w A.in1 i2 fp2 n2 P2 St2) (hz : Out s.heap z TI TO T f) (hT : ∃ o, s.heap.get? T = some o) (hI : IsTupOf2 s.heap TI (.ref i1) (.ref i2)) (st1 : St1 i s.heap) (st2 : St2 i s.heap) (l1 : i ≤ n1) (l2 : i ≤ n2) (le : i = n1 ∨ i = n2)
    (hQ : ∀ h' tk, (∀ c o, c ≠ z → c ≠ i1 → c ≠ i2 → s.heap.get? c = some o → h'.get? c = some o) → Q none { s with heap := h', toks := tk }) :
    wpAny (model prog w) A (pyNext (.ref z)) Q E s := by
  have ty : s.TypeIs (.ref z) "zip" := ⟨_, hz, rfl⟩
  unfold pyNext
  refine wpAny_bind (wpAny_attempt (wpAny_callSpecial?_slot (name := Str.ofString "__next__") ty F.slot_zip_next (wpAny_call_entry F.slot_zip_next ty F.entry_zip_next
    (body_end S D1 D2 hz hT hI st1 st2 l1 l2 le fun e h' tk ⟨o, ho, hc⟩ k => ?_) (F.args_zip_next_1 _))))
  exact wpAny_bind (wpAny_isInstance (T := "StopIteration") (b := true) ⟨o, ho, hc⟩ isSubtype_stop (wpAny_pure (hQ h' tk k)))
/-- behind i pairs, which stand at as -/
structure At (z TI TO i1 i2 lo : Addr) (P1 P2 : Nat → Value → Prop) (St1 St2 : Nat → Heap → Prop) (h : Heap) (i : Nat) (as : List Addr) : Prop where
  own : (i = 0 ∧ IsZip h z TI TO .none ∧ ∃ a b, IsTupOf2 h TO a b) ∨ ∃ T f, Out h z TI TO T f ∧ T ∈ as
  ti : IsTupOf2 h TI (.ref i1) (.ref i2)
  s1 : St1 i h
  s2 : St2 i h
  len : as.length = i
  up : as.Pairwise (· < ·)
  lo_le : lo ≤ h.objs.size
  new : ∀ a ∈ as, lo ≤ a
  two : ∀ j a, as[j]? = some a → ∃ x y, IsTupOf2 h a x y ∧ P1 j x ∧ P2 j y
/-- how the cells lie -/
structure Far (z TI TO i1 i2 lo L : Addr) (fp1 fp2 : List Addr) : Prop where
  sep : ZipSep2 z TI TO i1 i2 fp1 fp2
  hz : z < lo
  hti : TI < lo
  hto : TO < lo
  ha : i1 < lo
  hb : i2 < lo
  hl : L < lo
  lz : L ≠ z
  lt : L ≠ TI
  lo_ : L ≠ TO
  l1 : L ∉ fp1
  l2 : L ∉ fp2
theorem At.grow {lo L : Addr} {h h1 h2 : Heap} {as : List Addr} {x y : Value} {T' : Addr} {f' : Bool} (fr : Far z TI TO i1 i2 lo L fp1 fp2) (D1 : Draws prog w A i1 fp1 n1 P1 St1) (D2 : Draws prog w A i2 fp2 n2 P2 St2) (g : At z TI TO i1 i2 lo P1 P2 St1 St2 h i as)
    (k1 : ∀ c o, c ≠ z → c ≠ TO → c ≠ i1 → c ≠ i2 → h.get? c = some o → h1.get? c = some o) (t : IsTupOf2 h1 h.objs.size x y) (o1 : Out h1 z TI TO T' f') (hT' : T' ∈ as ++ [h.objs.size]) (m1 : St1 (i + 1) h1) (m2 : St2 (i + 1) h1) (p1 : P1 i x) (p2 : P2 i y)
    (k2 : ∀ c o, c ≠ L → h1.get? c = some o → h2.get? c = some o) (sz : h1.objs.size ≤ h2.objs.size) : At z TI TO i1 i2 lo P1 P2 St1 St2 h2 (i + 1) (as ++ [h.objs.size]) := by
  have far : ∀ c, lo ≤ c → c ≠ z ∧ c ≠ TO ∧ c ≠ i1 ∧ c ≠ i2 ∧ c ≠ L := fun c hc => ⟨Nat.ne_of_gt (Nat.lt_of_lt_of_le fr.hz hc), Nat.ne_of_gt (Nat.lt_of_lt_of_le fr.hto hc), Nat.ne_of_gt (Nat.lt_of_lt_of_le fr.ha hc), Nat.ne_of_gt (Nat.lt_of_lt_of_le fr.hb hc), Nat.ne_of_gt (Nat.lt_of_lt_of_le fr.hl hc)⟩
  have t2 : IsTupOf2 h2 h.objs.size x y := k2 _ _ (far _ g.lo_le).2.2.2.2 t
  refine ⟨.inr ⟨T', f', k2 _ _ fr.lz.symm o1, hT'⟩, k2 _ _ fr.lt.symm (k1 _ _ fr.sep.TIz fr.sep.TITO fr.sep.TIi1 fr.sep.TIi2 g.ti), D1.frame _ _ _ m1 fun b hb o e => k2 b o (fun q => fr.l1 (q ▸ hb)) e, D2.frame _ _ _ m2 fun b hb o e => k2 b o (fun q => fr.l2 (q ▸ hb)) e, by rw [List.length_append, g.len]; rfl, ?_, ?_, fun a ha => ?_, fun j a hj => ?_⟩
  · refine List.pairwise_append.mpr ⟨g.up, by simp, fun a ha b hb => ?_⟩
    simp at hb
    subst hb
    obtain ⟨j, hj⟩ := List.mem_iff_getElem?.mp ha
    obtain ⟨x, y, q, _⟩ := g.two j a hj
    exact Heap.lt_size q
  · exact Nat.le_trans (Nat.le_of_lt (Nat.lt_of_le_of_lt g.lo_le (Heap.lt_size t))) sz
  · rcases List.mem_append.mp ha with q | q
    · exact g.new a q
    · simp at q; subst q; exact g.lo_le
  · rw [List.getElem?_append] at hj
    split at hj
    · obtain ⟨x', y', q, r⟩ := g.two j a hj
      obtain ⟨c1, c2, c3, c4, c5⟩ := far a (g.new a (List.mem_of_getElem? hj))
      exact ⟨x', y', k2 _ _ c5 (k1 _ _ c1 c2 c3 c4 q), r⟩
    · rename_i hge
      rw [g.len] at hge hj
      have hji : j = i := by
        have := (List.getElem?_eq_some_iff.mp hj).1
        simp at this
        omega
      subst hji
      rw [Nat.sub_self] at hj
      cases hj
      exact ⟨x, y, t2, p1, p2⟩
abbrev lst (xs : List Value) (c : Nat) : Obj := { cls := .type "list", dict := none, data := .seq xs.toArray c, slots := #[] }
theorem loop {R : Result → Shared → Prop} {lo L : Addr} {res : Value} (fr : Far z TI TO i1 i2 lo L fp1 fp2) (D1 : Draws prog w A.in1.in1 i1 fp1 n1 P1 St1) (D2 : Draws prog w A.in1.in1 i2 fp2 n2 P2 St2) (hn : min n1 n2 ≤ sizeLine) :
    ∀ (k i : Nat) (s : Shared) (as : List Addr) (c : Nat), i + k = min n1 n2 → At z TI TO i1 i2 lo P1 P2 St1 St2 s.heap i as → s.heap.get? L = some (lst (as.map .ref) c) →
      (∀ (h' : Heap) (tk : Nat) (bs : List Addr) (c' : Nat), (∀ b o, b < lo → b ≠ z → b ≠ TO → b ≠ i1 → b ≠ i2 → b ≠ L → s.heap.get? b = some o → h'.get? b = some o) → h'.get? L = some (lst (bs.map .ref) c') → bs.length = min n1 n2 → bs.Pairwise (· < ·) → (∀ a ∈ bs, lo ≤ a) →
        (∀ j a, bs[j]? = some a → ∃ x y, IsTupOf2 h' a x y ∧ P1 j x ∧ P2 j y) → R (.ok (.ret res)) { s with heap := h', toks := tk }) →
      codeAny (model prog w) A (.builtin "list.extend.loop" ⟨[.ref L, .ref z, res], []⟩) R s := by
  intro k
  induction k with
  | zero =>
    intro i s as c hk g hL hR
    refine codeAny_builtin F.entry_extend_loop ?_
    rw [Around.under_plainId F.plain_extend_loop _]
    show wpAny _ A.in1 (pyNext (.ref z) >>= _) _ _ s
    have le : i = n1 ∨ i = n2 := by omega
    have fin : ∀ h' tk, (∀ c o, c ≠ z → c ≠ TO → c ≠ i1 → c ≠ i2 → s.heap.get? c = some o → h'.get? c = some o) → R (.ok (.ret res)) { s with heap := h', toks := tk } := fun h' tk kp => by
      refine hR h' tk as c (fun b o _ c1 c2 c3 c4 _ e => kp b o c1 c2 c3 c4 e) (kp _ _ fr.lz fr.lo_ (fun q => fr.l1 (q ▸ fr.sep.mem1)) (fun q => fr.l2 (q ▸ fr.sep.mem2)) hL) (by rw [g.len]; exact hk) g.up g.new fun j a hj => ?_
      obtain ⟨x, y, q, r⟩ := g.two j a hj
      have la := g.new a (List.mem_of_getElem? hj)
      exact ⟨x, y, kp _ _ (Nat.ne_of_gt (Nat.lt_of_lt_of_le fr.hz la)) (Nat.ne_of_gt (Nat.lt_of_lt_of_le fr.hto la)) (Nat.ne_of_gt (Nat.lt_of_lt_of_le fr.ha la)) (Nat.ne_of_gt (Nat.lt_of_lt_of_le fr.hb la)) q, r⟩
    rcases g.own with ⟨_, hz, a, b, ho⟩ | ⟨T, f, hz, hT⟩
    · exact wpAny_bind (wpAny_pyNext_zipD2_end fr.sep D1 D2 hz g.ti ho g.s1 g.s2 (by omega) (by omega) le fun h' tk kp => wpAny_pure (fin h' tk kp))
    · obtain ⟨j, hj⟩ := List.mem_iff_getElem?.mp hT
      obtain ⟨x, y, q, _⟩ := g.two j T hj
      exact wpAny_bind (end_out fr.sep D1 D2 hz ⟨_, q⟩ g.ti g.s1 g.s2 (by omega) (by omega) le fun h' tk kp => wpAny_pure (fin h' tk fun c o c1 _ c3 c4 e => kp c o c1 c3 c4 e))
  | succ k ih =>
    intro i s as c hk g hL hR
    refine codeAny_builtin F.entry_extend_loop ?_
    rw [Around.under_plainId F.plain_extend_loop _]
    show wpAny _ A.in1 (pyNext (.ref z) >>= _) _ _ s
    have go : ∀ (x y : Value) (h1 : Heap) (tk : Nat) (T' : Addr) (f' : Bool), P1 i x → P2 i y → Out h1 z TI TO T' f' → T' ∈ as ++ [s.heap.objs.size] → St1 (i + 1) h1 → St2 (i + 1) h1 → IsTupOf2 h1 s.heap.objs.size x y → (∀ c o, c ≠ z → c ≠ TO → c ≠ i1 → c ≠ i2 → s.heap.get? c = some o → h1.get? c = some o) →
        wpAny (model prog w) A.in1 (updateSeq L (·.push (.ref s.heap.objs.size)) >>= fun _ => again (.builtin "list.extend.loop" ⟨[.ref L, .ref z, res], []⟩))
          (fun fin s' => match fin with | .done f => R (.ok f) s' | .again c' => c'.quiet = true ∧ codeAny (model prog w) A c' R s') (fun e s' => R (.error e) s') { s with heap := h1, toks := tk } := fun x y h1 tk T' f' p1 p2 o1 hT' m1 m2 t kp => by
      have hL1 : h1.get? L = some (lst (as.map .ref) c) := kp _ _ fr.lz fr.lo_ (fun q => fr.l1 (q ▸ fr.sep.mem1)) (fun q => fr.l2 (q ▸ fr.sep.mem2)) hL
      have la : (as.map Value.ref).toArray.size = i := by rw [List.size_toArray, List.length_map, g.len]
      have g2 := g.grow (h2 := h1.update L (Obj.mapSeq (·.push (.ref s.heap.objs.size)))) fr D1 D2 kp t o1 hT' m1 m2 p1 p2 (fun c o hc e => (Heap.get?_update_other _ _ (Ne.symm hc)).trans e) (Nat.le_of_eq (Heap.SameBut.update ..).1.symm)
      refine wpAny_bind (wpAny_updateSeq hL1 rfl (wpAny_pure ⟨plainId_quiet F.plain_extend_loop _, ih (i + 1) _ (as ++ [s.heap.objs.size]) (c + 1) (by omega) g2 ?_ fun h' tk' bs c' q1 q2 q3 q4 q5 q6 => ?_⟩) (by rw [la]; omega) (by rw [Array.size_push, la]; omega))
      · have := Heap.get?_update_self (Obj.mapSeq (·.push (Value.ref s.heap.objs.size))) hL1 rfl
        rw [this]
        simp [Obj.mapSeq]
      · refine hR h' tk' bs c' (fun b o b0 b1 b2 b3 b4 b5 e => q1 b o b0 b1 b2 b3 b4 b5 ((Heap.get?_update_other _ _ (Ne.symm b5)).trans (kp b o b1 b2 b3 b4 e))) q2 q3 q4 q5 q6
    rcases g.own with ⟨i0, hz, a, b, ho⟩ | ⟨T, f, hz, hT⟩
    · exact wpAny_bind (wpAny_pyNext_zipD2_item fr.sep D1 D2 hz g.ti ho g.s1 g.s2 (by omega) (by omega) fun x y h1 tk p1 p2 o1 _ m1 m2 t _ kp => go x y h1 tk _ false p1 p2 o1 (by simp) m1 m2 t kp)
    · obtain ⟨j, hj⟩ := List.mem_iff_getElem?.mp hT
      obtain ⟨x, y, q, _⟩ := g.two j T hj
      exact wpAny_bind (next_out fr.sep D1 D2 hz ⟨_, q⟩ g.ti g.s1 g.s2 (by omega) (by omega) fun x y h1 tk p1 p2 o1 m1 m2 t kp => go x y h1 tk _ true p1 p2 o1 (List.mem_append_left _ hT) m1 m2 t fun c o c1 _ c3 c4 e => kp c o c1 c3 c4 e)
/-- a list's cell is written twice and stands as before -/
theorem touch {L : Addr} {xs : List Value} {c : Nat} {Q : Unit → Shared → Prop} (hL : s.heap.get? L = some (lst xs c)) (hx : xs.length + 1 ≤ sizeLine) (hQ : ∀ h' c', h'.get? L = some (lst xs c') → Heap.SameBut L s.heap h' → Q () { s with heap := h' }) : wpAny (model prog w) A (Builtin.List.listTouch (.ref L)) Q E s := by
  show wpAny _ _ (updateSeq L (·.push .none) >>= fun _ => updateSeq L (·.pop)) _ _ s
  refine wpAny_bind (wpAny_updateSeq hL rfl ?_ (by rw [List.size_toArray]; omega) (by rw [Array.size_push, List.size_toArray]; omega))
  have h1 := Heap.get?_update_self (Obj.mapSeq (·.push Value.none)) hL rfl
  have e1 : Obj.mapSeq (·.push Value.none) (lst xs c) = lst (xs ++ [.none]) (c + 1) := by simp [Obj.mapSeq]
  rw [e1] at h1
  refine wpAny_updateSeq h1 rfl (hQ _ (c + 2) ?_ ⟨(Heap.SameBut.update ..).1.trans (Heap.SameBut.update ..).1, fun b hb => ?_⟩) (by rw [List.size_toArray, List.length_append]; simp; omega) (by rw [Array.size_pop, List.size_toArray, List.length_append]; simp; omega)
  · rw [Heap.get?_update_self (Obj.mapSeq (·.pop)) h1 rfl]
    simp [Obj.mapSeq]
  · rw [Heap.get?_update_other _ _ (Ne.symm hb), Heap.get?_update_other _ _ (Ne.symm hb)]
end
end LZ
end DN
/-! list(zip(a, b)) and dict(pairs) by data -/
namespace DN
open PySem PySem.Spec PyProof.Rows L2
open LamX (Tabs ExtN)
def Sc (K : PySem.W.Frag) (H : Hp) (x : V) (xs : List V) : Prop := (∃ a, x = .ref a ∧ SqL K H a xs) ∨ (∃ a, x = .ref a ∧ SqT K H a xs) ∨ ∃ z : Str, x = .str z ∧ xs = (z.cps.toList.map fun c => V.str ⟨#[c]⟩) ∧ z.cps.size ≤ sizeLine
section
variable {X : Cx} {T : List (Addr × Str)} {W : WX}
def Pr (H : Hp) : List Addr → List (V × V) → Prop := Paired fun t q => H t = some (.tup [q.1, q.2])
end
/-! ### by data -/
theorem Nx.many {T : List (Addr × Str)} {F H H' : Hp} {N : List Addr} (z : Fz F H) (kp : ∀ b o, H b = some o → H' b = some o) (hn : ∀ a ∈ N, H a = none) (hs : ∀ a ∈ N, ∃ o, H' a = some o ∧ ∀ ps, o ≠ .tbl ps) : Nx T F H (fun a => if a ∈ N then H' a else F a) H' := by
  refine ⟨fun a o e => ?_, ⟨fun a o e => ?_, fun a ps e => ?_⟩, fun b u e _ => kp b u e, fun a o e => ?_, fun t => t.ext fun b u e => kp b u e⟩
  · have : a ∉ N := fun q => by have := z.sub _ _ e; rw [hn a q] at this; cases this
    show (if a ∈ N then H' a else F a) = some o
    rw [if_neg this]; exact e
  · have e : (if a ∈ N then H' a else F a) = some o := e
    split at e
    · exact e
    · exact kp _ _ (z.sub _ _ e)
  · have e : (if a ∈ N then H' a else F a) = some (.tbl ps) := e
    split at e
    · rename_i q
      obtain ⟨o, h1, h2⟩ := hs a q
      rw [h1] at e
      exact h2 ps (Option.some.inj e)
    · exact z.nt _ _ e
  · have e : (if a ∈ N then H' a else F a) = some o := e
    split at e
    · rename_i q
      exact .inr fun o' e' => by rw [hn a q] at e'; cases e'
    · exact .inl e
theorem Pr.all {H' : Hp} : ∀ {ts : List Addr} {qs : List (V × V)}, Pr H' ts qs → ∀ t ∈ ts, ∃ vs, H' t = some (.tup vs)
  | _, _, .nil, t, h => by cases h
  | _, _, .cons h1 h2, t, h => by
    rcases List.mem_cons.mp h with e | e
    · rw [e]; exact ⟨_, h1⟩
    · exact Pr.all h2 t e
section
variable {X : Cx} {T : List (Addr × Str)} {W : WX} {F0 G : Hp} {i : Nat}
end
/-! ### dict(pairs) -/
section
variable {X : Cx} {T : List (Addr × Str)} {W : WX} {F0 G : Hp} {i : Nat}
end
end DN
/-! M-mode where a token is out -/
namespace DN
open PySem PySem.Spec PyProof.Rows L2
open LamX (Tabs ExtN)
section
variable {X : Cx} {T : List (Addr × Str)} {W : WX} {F0 G : Hp} {i : Nat}
end
/-! x = e (lent), then f(state, .. x ..) -/
section
variable {X : Cx} {T : List (Addr × Str)} {W : WX} {F0 G : Hp} {i : Nat}
end
end DN
/-! a law whose body goes over to M-mode; evaluating M-mode -/
namespace DN
open PySem PySem.Spec PyProof.Rows L2
open LamX (Tabs ExtN)
/-! ### evaluating -/
section
variable {i n : Nat} {ρ : Rho} {m : MSt} {p : Addr}
end
end DN
/-! a tuple taken once, or not at all -/
namespace DN
open PySem PySem.Spec PyProof.Rows L2
open LamX (Tabs ExtN)
section
variable {X : Cx} {T : List (Addr × Str)} {W : WX}
end
end DN
/-! enumerate of a tuple -/
namespace DN
open PySem PySem.Spec PyProof.Rows L2
abbrev enumO (i : Addr) : Obj := { cls := .type "enumerate", data := .fields #[.none, .bool false, .ref i, rawInt 0, .none, .none] }
theorem meets_enum1 {v : Value} {o : Obj} {I : Heap → Prop} (B : Begins v o I) : Meets (Builtin.«enumerate.__new__» ⟨[.type "enumerate", v], []⟩) (fun _ R s => I s.heap ∧ R (.ok (.ret (.ref (s.heap.push o).objs.size))) { s with heap := (s.heap.push o).push (enumO s.heap.objs.size) }) := by
  refine .of_wp fun P w A R s ⟨i1, r1⟩ => ?_
  rcases s with ⟨hp, g, d, t0, os⟩
  have sub := sub_enumerate
  have walk : ∀ {A' : Around} {E : Value → Shared → Prop} {Q : Value → Shared → Prop}, Q (.ref hp.objs.size) ⟨hp.push o, g, d, t0, os⟩ → wpAny (model P w) A' (pyIter v) Q E ⟨hp, g, d, t0, os⟩ := B.iter P w _ _ ⟨hp, g, d, t0, os⟩ _ i1
  wp_walk using walk
  apply wpAny_stack_any
  intro st
  apply wpAny_pure
  split
  all_goals try (rename_i c _ _ _ _ _; cases c == Value.type "enumerate")
  all_goals (wp_walk using walk; exact ⟨_, rfl, r1⟩)
theorem call_enum1 {P : Program} {w : World} {A : Around} {E : Value → Shared → Prop} {s : Shared} {v : Value} {o : Obj} {I : Heap → Prop} {Q : Value → Shared → Prop} (B : Begins v o I) (hi : I s.heap)
    (k : ∀ h', IsEnum h' (s.heap.objs.size + 1) s.heap.objs.size 0 .none → h'.get? s.heap.objs.size = some o → (∀ b ob, s.heap.get? b = some ob → h'.get? b = some ob) → Q (.ref (s.heap.objs.size + 1)) { s with heap := h' }) : wpAny (model P w) A (call (.type "enumerate") [v]) Q E s := by
  have sz : (s.heap.push o).objs.size = s.heap.objs.size + 1 := Heap.size_push ..
  have at_ : ((s.heap.push o).push (enumO s.heap.objs.size)).get? (s.heap.objs.size + 1) = some (enumO s.heap.objs.size) := by
    rw [← sz]
    exact Heap.get?_push_size _ rfl
  have end_ : (∃ o', ((s.heap.push o).push (enumO s.heap.objs.size)).get? (s.heap.objs.size + 1) = some o' ∧ o'.cls = .type "enumerate") ∧ Q (.ref (s.heap.objs.size + 1)) { s with heap := (s.heap.push o).push (enumO s.heap.objs.size) } :=
    ⟨⟨_, at_, rfl⟩, k _ at_ (Heap.get?_push_of_some _ (Heap.get?_push_size _ B.free)) fun b ob q => Heap.get?_push_of_some _ (Heap.get?_push_of_some _ q)⟩
  rw [← sz] at end_
  exact callType_new F.called_enumerate (by decide) (F.typeCall_enumerate_1 v) (F.newCall_enumerate_1 v) (fun ob => F.args_object_init_2 ob _) F.entry_enumerate_new (meets_enum1 B) ⟨hi, end_⟩
/-- the n items of the tuple at a, each in a new pair with its place -/
def ItE (K : PySem.W.Frag) (a : Addr) (n : Nat) : It :=
  ⟨fun i H => ∃ xs x, SqT K H a xs ∧ xs.length = n ∧ xs[i]? = some x, fun i H v H' => ∃ T x, v = .ref T ∧ H T = none ∧ H' = upd H T (.tup [.int (i : Nat), x]) ∧ ∀ xs, SqT K H a xs → xs[i]? = some x, fun i H => ∃ xs, SqT K H a xs ∧ xs.length = n ∧ n ≤ i⟩
theorem turn_enumT {P : Program} {w : World} {K : PySem.W.Frag} {elts : List Expr} {kk n : Nat} {tpos : Pos} {a e it : Addr} (h1 : e ≠ it) (h2 : e ≠ a) (h3 : a ≠ it) :
    Turn P w K (.Tuple elts kk tpos) (ItE K a n) [e, it] e (fun i h => i ≤ n ∧ (∃ old, IsEnum h e it (i : Nat) old) ∧ h.IsTupleIter it a i) := by
  have D : ∀ (A : Around) (its : List Value), A.handled = none → Draws P w A.in1 it [it, a] its.toArray.size (fun i v => its.toArray[i]? = some v) (fun i h => h.IsTupleIter it a i ∧ h.IsTuple a its.toArray) := fun A its hh => Draws.tuple (A := A.in1) hh it a h3 its.toArray
  have W := fun A its hh => WalksT.enumerateD (D A its hh) e h1 (by simp [h1, h2]) (by simp)
  have two : ∀ {b : Addr}, b ∈ [e, it] → b = e ∨ b = it := fun hb => by simpa using hb
  refine ⟨by simp, fun i h st b hb => ?_, fun i h h' st k => ?_, ?_, ?_, fun A i s Q E st q => ?_⟩
  · obtain ⟨_, ⟨old, he⟩, o, ho, _, hd⟩ := st
    rcases two hb with rfl | rfl
    · exact ⟨_, he, fun v z => nomatch z⟩
    · exact ⟨o, ho, fun v z => by rw [hd] at z; cases z⟩
  · obtain ⟨hi, ⟨old, he⟩, ht⟩ := st
    exact ⟨hi, ⟨old, k e (by simp) _ he⟩, ht.at fun o z => k it (by simp) o z⟩
  · intro X hP hw hK hc i pins s σ H E I hf st hg
    subst hP hw hK
    obtain ⟨xs, x, hq, hl, hx⟩ := hg
    obtain ⟨its, rv, tp, _⟩ := I.tuple hq
    obtain ⟨u, hu, ru⟩ := rv.get hx
    have hlt := (List.getElem?_eq_some_iff.mp hu).1
    refine (W X.A its (I.ok.hd hc)).item i s _ _ (by simpa using hlt) ⟨st.2.1, st.2.2, tp⟩ fun T vals h' tk hv hT htup mid kp => ⟨_, rfl, (W X.A its (I.ok.hd hc)).go elts kk tpos i T _ _ _ mid fun h2 st2 kp2 => ?_⟩
    obtain ⟨t, x', hx', rfl⟩ := hv
    obtain rfl : u = x' := by
      have : its[i]? = some x' := by simpa using hx'
      rw [hu] at this; cases this; rfl
    have ap := (W X.A its (I.ok.hd hc)).apart _ _ _ mid
    have nT : H T = none := I.hok.fresh hT
    have lt : ∀ b ∈ [e, it], b < s.heap.objs.size := fun b hb => by
      obtain ⟨_, ⟨old, he⟩, o, ho, _, _⟩ := st
      rcases two hb with rfl | rfl
      · exact Heap.lt_size he
      · exact Heap.lt_size ho
    have J : Inv X pins σ (upd H T (.tup [.int (i : Nat), x])) { s with heap := h2, toks := tk } :=
      I.turnedNew (fun b ob hb z => kp2 b ob hb (kp b ob hb z)) hf hT ⟨by show 2 ≤ sizeLine; decide, [.int i t, u], .cons ⟨t, rfl⟩ (.cons ru .nil), htup.at fun o z => kp2 T o ap z⟩
    refine ⟨.ref T, _, J, rfl, ⟨T, x, rfl, nT, rfl, fun ys hy => by rw [I.tuple_inj hy hq, hx]⟩, ⟨?_, st2.1, st2.2.1⟩, fun b hb => ?_⟩
    · have := rv.length
      omega
    · rw [upd_ne (Nat.ne_of_lt (Nat.lt_of_lt_of_le (lt b hb) hT))]
      exact (hf b hb).1
  · intro X hP hw hK hc i pins s σ H E I hf st hg
    subst hP hw hK
    obtain ⟨xs, hq, hl, hx⟩ := hg
    obtain ⟨its, rv, tp, _⟩ := I.tuple hq
    have e1 : i = its.toArray.size := by
      have := rv.length
      have := st.1
      simp; omega
    subst e1
    refine (W X.A its (I.ok.hd hc)).done s _ _ ⟨st.2.1, st.2.2, tp⟩ fun h' tk kp => ⟨rfl, ?_⟩
    exact I.turnedL kp hf
  · obtain ⟨_, ⟨_, he⟩, _⟩ := st
    exact wpAny_pyIter_enum he q
/-- enumerate(a tuple) -/
def iEnumT (K : PySem.W.Frag) (ta : TA) : TI := fun σ H R => ta σ H fun vs H1 => ∃ a xs, vs = [.ref a] ∧ SqT K H1 a xs ∧ R (ItE K a xs.length) H1
theorem pi_enumT {X : Cx} {e : Expr} {ta : TA} {p pos tpos : Pos} {elts : List Expr} {kk : Nat} (hg : Gl X "enumerate") (hm : X.mg "enumerate" = none) (ha : PA X [e] ta) (hs : starEach [e] X.env = [(false, eval e X.env)] := by rfl) :
    PI X (.Tuple elts kk tpos) (.Call (.Name "enumerate" p) [e] [] pos) (iEnumT X.K ta) := by
  refine ⟨fun pins s σ H R I h => Call_ (ld_blt I hg hm boot_enumerate (PyProof.Rows.callWith_type1 (thn (ha.run pos pins s σ H _ I h) fun us s1 z => ?_) hs rfl))⟩
  obtain ⟨vs, H1, I1, r1, a, xs, rfl, hq, q⟩ := z
  obtain ⟨u, rfl, rfl⟩ : ∃ u, us = [u] ∧ u = .ref a := by
    cases r1 with
    | cons r rr => cases rr; cases r; exact ⟨_, rfl, rfl⟩
  obtain ⟨its, rv, tp, _⟩ := I1.tuple hq
  have la : a < s1.heap.objs.size := by
    obtain ⟨o, ho, _⟩ := tp
    exact Heap.lt_size ho
  refine call_enum1 (begins_tuple a its.toArray) tp fun h' he hit hk => wpAny_pyIter_enum he ?_
  refine ⟨s1.heap.objs.size + 1, [s1.heap.objs.size + 1, s1.heap.objs.size], _, _, H1, rfl, I1.kept (t' := s1.toks) hk, turn_enumT (n := xs.length) (Nat.succ_ne_self _) (Nat.ne_of_gt (Nat.lt_succ_of_lt la)) (Nat.ne_of_lt la), ⟨Nat.zero_le _, ⟨_, he⟩, ⟨_, hit, rfl, rfl⟩⟩, fun b hb => ?_, q⟩
  have le : s1.heap.objs.size ≤ b := by
    have : b = s1.heap.objs.size + 1 ∨ b = s1.heap.objs.size := by simpa using hb
    rcases this with rfl | rfl
    · exact Nat.le_succ _
    · exact Nat.le_refl _
  exact I1.fpOk le (I1.hok.fresh le)
/-! .. as data -/
open LamX (Tabs ExtN)
def enumD : Nat → List D → List D
  | _, [] => []
  | i, d :: ds => .tup [.int i, d] :: enumD (i + 1) ds
def enR : List D → Res (List D)
  | [.tup ds] => .ok (enumD 0 ds)
  | _ => .bad
def enumI (f : Rho → Res (List D)) : Rho → Res (List D) := fun ρ => (f ρ).bind enR
theorem enumD_len : ∀ (ds : List D) (i : Nat), (enumD i ds).length = ds.length
  | [], _ => rfl
  | d :: ds, i => by
    show (enumD (i + 1) ds).length + 1 = ds.length + 1
    rw [enumD_len ds]
theorem enumD_get : ∀ {ds : List D} {i j : Nat} {d : D}, (enumD i ds)[j]? = some d → ∃ a, ds[j]? = some a ∧ d = .tup [.int ((i + j : Nat) : Int), a]
  | [], _, _, _, h => by simp [enumD] at h
  | a :: ds, i, 0, d, h => by
    have h : some (D.tup [.int i, a]) = some d := h
    cases h
    exact ⟨a, rfl, rfl⟩
  | a :: ds, i, j + 1, d, h => by
    have h : (enumD (i + 1) ds)[j]? = some d := h
    obtain ⟨b, h1, h2⟩ := enumD_get h
    refine ⟨b, h1, ?_⟩
    rw [h2, show i + 1 + j = i + (j + 1) by omega]
section
variable {X : Cx} {T : List (Addr × Str)} {W : WX}
theorem walks_enum {K : PySem.W.Frag} {F : Hp} {a : Addr} {xs : List V} {ds : List D} (h : SqT K F a xs) (r : RpAll K F xs ds) : Walks K T F (ItE K a xs.length) (enumD 0 ds) := fun i F' H sb z => by
  have l : SqT K H a xs := (sb.trans z.sub).st h
  refine ⟨fun d hd => ?_, fun hle => ⟨xs, l, rfl, by rw [enumD_len] at hle; rw [r.length]; exact hle⟩⟩
  obtain ⟨b, g, rfl⟩ := enumD_get hd
  obtain ⟨v, hv, rv⟩ := r.get g
  refine ⟨⟨xs, v, l, rfl, hv⟩, fun x H' ⟨t, u, e1, hn, e2, q⟩ => ?_⟩
  subst e1 e2
  have e := q xs l
  rw [hv] at e
  cases e
  refine ⟨_, Nx.push z hn (fun ps q => by cases q), ?_⟩
  rw [Nat.zero_add]
  exact rp_tup z hn (.cons (.int _) (.cons (rv.mono sb) .nil))
theorem i_enum {e : Expr} {p pos tpos : Pos} {elts : List Expr} {kk : Nat} {f : Rho → Res (List D)} (hg : Gl X "enumerate") (hm : X.mg "enumerate" = none) (ha : DA X T W [e] f) (hs : starEach [e] X.env = [(false, eval e X.env)] := by rfl) : DI X T W (.Tuple elts kk tpos) (.Call (.Name "enumerate" p) [e] [] pos) (enumI f) :=
  (pi_enumT hg hm ha hs).to fun σ H R ⟨ρ, F, a, h⟩ => by
    refine ⟨ρ, F, a, (aft.bind (R := RpAll X.K) h).imp fun ds _ vs F1 H1 _ _ q => ?_⟩
    obtain ⟨ds', F2, _, n, rs, q⟩ := q
    unfold enR at q
    split at q
    · cases rs with
      | cons r1 rr =>
        cases rr
        cases r1 with
        | tup h1 s1 => exact ⟨_, _, rfl, n.z.sub.st h1, q _ F2 H1 (Nx.refl n.z) (walks_enum h1 s1)⟩
    · exact q.elim
end
end DN
/-! a lambda with one parameter, handed to a def: within the call it belongs to the base -/
namespace DN
open PySem PySem.Spec PyProof.Rows L2
open LamX (Tabs ExtN CodeO TabB)
open NdefX (NF NScope CellsAt Caps envF ncx startF)

/-! ### a part of a heap -/
open Classical in
noncomputable def only (h : Heap) (S : Addr → Prop) : Heap := ⟨h.objs.mapIdx fun i o => if S i then o else { o with data := .freed }, h.life⟩
theorem only_in {h : Heap} {S : Addr → Prop} {b : Addr} (hb : S b) : (only h S).get? b = h.get? b := by
  unfold only Heap.get?
  rw [Array.getElem?_mapIdx]
  cases h.objs[b]? with
  | none => rfl
  | some o => simp [hb]
theorem only_out {h : Heap} {S : Addr → Prop} {b : Addr} (hb : ¬ S b) : (only h S).get? b = none := by
  unfold only Heap.get?
  rw [Array.getElem?_mapIdx]
  cases h.objs[b]? with
  | none => rfl
  | some o => simp [hb]
theorem only_size (h : Heap) (S : Addr → Prop) : (only h S).objs.size = h.objs.size := by
  unfold only
  simp
theorem only_some {h : Heap} {S : Addr → Prop} {b : Addr} {o : Obj} (e : (only h S).get? b = some o) : S b ∧ h.get? b = some o := by
  by_cases hb : S b
  · exact ⟨hb, by rw [← only_in hb]; exact e⟩
  · rw [only_out hb] at e; cases e
theorem frames_on {h base base' : Heap} : ∀ {l : List Env}, h.FunFrames base l → (∀ b ∈ frs l, base'.get? b = none) → h.FunFrames base' l
  | [], _, _ => trivial
  | env :: r, ⟨hk, ⟨L, o, hf, _, ho, hd⟩, hr⟩, hn => by
    have e : frs (env :: r) = L :: frs r := by
      unfold frs
      rw [List.filterMap_cons, hf]
    refine ⟨hk, ⟨L, o, hf, hn L (by rw [e]; exact List.mem_cons_self), ho, hd⟩, frames_on hr fun b hb => hn b ?_⟩
    rw [e]
    exact List.mem_cons_of_mem _ hb
/-! ### less is frozen -/
def Most (F G : Hp) : Prop := ∀ a o, F a = some o → (∀ φ, o ≠ .ext φ) → G a = some o
theorem Most.rd {F G : Hp} (m : Most F G) {a : Addr} {u : HO} (hu : ∀ φ, u ≠ .ext φ) (h : Rd F a u) : Rd G a u := by
  rcases h with h | ⟨o, h⟩
  · exact .inl (m _ _ h hu)
  · exact .inr ⟨o, m _ _ h fun φ z => by cases z⟩
mutual
theorem Rp.less {K : PySem.W.Frag} {F G : Hp} (m : Most F G) : ∀ {v : V} {d : D}, Rp K F v d → Rp K G v d
  | _, _, .non => .non
  | _, _, .bl b => .bl b
  | _, _, .int i => .int i
  | _, _, .str x => .str x
  | _, _, .fn x => .fn x
  | _, _, .ty n => .ty n
  | _, _, .lst h t => .lst (m _ _ h fun φ z => by cases z) (RpAll.less m t)
  | _, _, .tup h t => .tup (h.elim (fun h => .inl (m.rd (fun φ z => by cases z) h)) .inr) (RpAll.less m t)
  | _, _, .dK h => .dK (m _ _ h fun φ z => by cases z)
  | _, _, .dT ⟨od, h⟩ => .dT ⟨od, m _ _ h fun φ z => by cases z⟩
  | _, _, .arr h => .arr (h.elim (fun h => .inl (m.rd (fun φ z => by cases z) h)) .inr)
  | _, _, .pro ⟨o, h1, h2, h3⟩ => .pro ⟨o, h1, h2, m _ _ h3 fun φ z => by cases z⟩
  | _, _, .adr a => .adr a
  | _, _, .tab h1 h2 h3 t => .tab h1 (m _ _ h2 fun φ z => by cases z) h3 (RpAll.less m t)
  | _, _, .pw h => .pw (m _ _ h fun φ z => by cases z)
  | _, _, .frm ⟨o, h1, h2, h3⟩ t => .frm ⟨o, h1, h2, m _ _ h3 fun φ z => by cases z⟩ (RpAll.less m t)
theorem RpAll.less {K : PySem.W.Frag} {F G : Hp} (m : Most F G) : ∀ {vs : List V} {ds : List D}, RpAll K F vs ds → RpAll K G vs ds
  | _, _, .nil => .nil
  | _, _, .cons h t => .cons (Rp.less m h) (RpAll.less m t)
end
/-! ### the lambda in the base -/
structure LamB (base : Heap) (f c : Addr) (q : Str) (params : Arguments) (body : Expr) (scope : Scope) (cl : List (Str × Addr)) (y : Str) (n : Int) : Prop where
  fn : ∃ pm ctv, base.get? f = some (PySem.W.kla_obj "<lambda>" q params body scope cl pm c ctv)
  code : base.CodeRec (.ref c) q
  cells : ∀ z a, cl.lookup z = some a → ∃ v, base.IsCell a v
  inj : ∀ z z' a, cl.lookup z = some a → cl.lookup z' = some a → z = z'
  val : ∃ a t, cl.lookup y = some a ∧ base.IsCell a (some (.int n t))
theorem LamB.at {base h : Heap} {H : Hp} {f c : Addr} {q : Str} {params : Arguments} {body : Expr} {scope : Scope} {cl : List (Str × Addr)} {y : Str} {n : Int} (B : LamB base f c q params body scope cl y n) (k : ∀ b o, base.get? b = some o → h.get? b = some o ∧ H b = none) :
    CellsAt cl [y] [some (.int n)] h H := by
  refine ⟨rfl, fun z a e => ?_, B.inj, fun i z e => ?_⟩
  · obtain ⟨v, o, ho, hd⟩ := B.cells z a e
    exact ⟨(k _ _ ho).2, v, o, (k _ _ ho).1, hd⟩
  · cases i with
    | zero =>
      cases e
      obtain ⟨a, t, e1, o, ho, hd⟩ := B.val
      refine ⟨a, e1, fun v hv => ?_⟩
      cases hv
      exact ⟨.int n t, ⟨t, rfl⟩, o, (k _ _ ho).1, hd⟩
    | succ i => simp at e
/-- a call of a name that holds the lambda at f -/
def callA (f : Addr) (L : D → Res D) (i : Nat) (g : Rho → Res D) : Rho → Res D := fun ρ => match ρ[i]? with
  | some (.z (.adr a)) => if a = f then (g ρ).bind L else .bad
  | _ => .bad
theorem e_callA {X : Cx} {T : List (Addr × Str)} {k i : Nat} {x y pr : Str} {f c : Addr} {q : Str} {params : Arguments} {body : Expr} {scope : Scope} {cl : List (Str × Addr)} {n : Int} {fb : Rho → Res D} {E : XK} {e : Expr} {p pos : Pos} {g : Rho → Res D}
    (B : LamB X.base f c q params body scope cl y n) (S : NScope [pr, y] [pr] [y] scope) (hbind : ∀ (q : Str) (cl : List (Str × Addr)) (pm cv ctv u : Value), bindArgs (PySem.W.kla_fn "<lambda>" q params body scope cl pm cv ctv) ⟨[u], []⟩ = pure [(pr, u)])
    (hbody : ∀ (A : Around) (outer : List Env) (s : Shared) (H : Hp), Room k (A.deeper (envF ⟨"<lambda>", q, params, [], scope, cl, c⟩ f s.heap.objs.size)) → DE (ncx (L2.CX X.prog X.w) X.prog X.w X.K X.mg X.base [pr, y] ⟨"<lambda>", q, params, [], scope, cl, c⟩ f A outer s H E) T (WofE E) body fb)
    (hr : Room (k + 1) X.A) (tk : Takes X (WofE E)) (hN : X.N[i]? = some x) (hv : Vis X.env.scope x) (he : DE X T (WofE E) e g)
    (hdb : (x == ("__debug__" : Str)) = false := by decide) (hcd : (x == ("__classdict__" : Str)) = false := by decide) (hs : starEach [e] X.env = [(false, eval e X.env)] := by rfl) :
    DE X T (WofE E) (.Call (.Name x p) [e] [] pos) (callA f (fun d => fb [.z d, .z (.int n)]) i g) := by
  refine ⟨fun pins s σ H Q I ⟨ρ, F, a, h⟩ => ?_⟩
  unfold callA at h
  cases e1 : ρ[i]? with
  | none => rw [e1] at h; exact h.elim
  | some en =>
    rw [e1] at h
    cases en with
    | u => exact h.elim
    | o d => exact h.elim
    | z d =>
      cases d with
      | adr b =>
        replace h : aft (Rp X.K) X.K T (WofE E) σ F H Q (if b = f then (g ρ).bind fun d => fb [.z d, .z (.int n)] else .bad) := h
        split at h
        · rename_i hb
          subst hb
          obtain ⟨v, h1, h2⟩ := a.r.z i _ e1
          cases h2
          obtain ⟨pm, ctv, hfn⟩ := B.fn
          refine wpAny_Call_Name_kw (thn ((pe_var (pos := p) (i := i) hN hv hdb hcd).run pins s σ H (fun v H1 => v = .ref b ∧ H1 = H) I ⟨.ref b, h1, rfl, rfl⟩) fun u s1 ⟨v, H1, I1, r1, ev, eH⟩ => ?_)
          subst ev
          rw [eH] at I1
          obtain rfl : u = Value.ref b := r1
          refine PySem.W.callWith_F (first := []) ⟨_, _, _, _, I1.bk _ _ hfn⟩ ?_ (by rw [hs]; rfl) rfl
          rw [hs]
          show wpAny _ _ (spliced [(false, eval e X.env)]) _ _ _
          refine Calls.spliced_cons (thn (he.run pins s1 σ H _ I1 ⟨ρ, F, a, aft.bind (R := Rp X.K) h⟩) fun u s2 ⟨v, H2, I2, r2, d, F2, _, nx, rd, qq⟩ => Calls.spliced_nil ⟨⟨_, _, _, _, I2.bk _ _ hfn⟩, ?_⟩)
          have rc : codeAny (model X.prog X.w) X.A (.call (.ref b) ⟨[u], []⟩) (CR (L2.CX X.prog X.w) X.stack X.prog X.w H2 s2 Q E) s2 := by
            refine PySem.W.kla_callFunE hr.depth (I2.bk _ _ hfn) rfl S.co S.gen rfl (B.code.keeps I2.bk) ?_
            rw [hbind]
            refine wpAny_pure (wpAny_newFunctionEnv S.nocell (fun ⟨z, _⟩ hz => S.par z (List.of_mem_zip (l₁ := [pr]) (l₂ := [u]) hz).1) (fun h₁ hns hsb => ⟨I2.nolimit.fresh _ hsb, ?_⟩) S.kind)
            have J := NdefX.inv_startN (CX := L2.CX X.prog X.w) (f := b) (F := ⟨"<lambda>", q, params, [], scope, cl, c⟩) (E := E) (tk := s2.toks + 1) S hr.hd I2.env0 (vs := [v]) rfl (.cons r2 .nil) (B.at I2.bs) hns fun b o z => hsb.extBut b o (Nat.ne_of_lt (Heap.lt_size z)) (Heap.get?_push_of_some _ z)
            have run := (hbody X.A X.stack s2 H2 (hr.deeper _)).run [] _ _ H2 Q J ⟨[.z d, .z (.int n)], F2, ⟨nx.z, (a.nx nx).t, Rl.start (N := [pr, y]) (.cons rd (.cons (.int n) .nil))⟩, ?_⟩
            · exact PySem.W.kla_codeExpr (wpAny_mono run (fun u' s' ⟨v', H', J', rv, q'⟩ => ⟨v', H', J'.os, J'.bare, J'.base, J'.hok, rv, q'⟩) fun _ _ z => z)
            · cases ed : fb [.z d, .z (.int n)] with
              | ok d => rw [ed] at qq; exact qq
              | ex m => rw [ed] at qq; exact qq
              | bad => rw [ed] at qq; exact qq.elim
          refine wpAny_call (codeAny_mono rc fun r s' hq => ?_)
          have ps : Passes (L2.CX X.prog X.w) X E := passes_call tk fun _ _ _ _ z => z
          match r, hq with
          | .error er, hq => exact ps pins σ H2 s2 er s' I2 hq
          | .ok (.ret u'), hq => exact I2.after hq
          | .ok .next, hq => exact hq.elim
          | .ok .brk, hq => exact hq.elim
          | .ok .cont, hq => exact hq.elim
        · exact h.elim
      | _ => exact h.elim
/-! ### the call that hands it over -/
def noexR : Res D → Res D
  | .ex _ => .bad
  | r => r
def lam3 (den : (D → Res D) → D → D → Res D) (fb : Rho → Res D) (j : Nat) (f1 f2 : Rho → Res D) : Rho → Res D := fun ρ => (f1 ρ).bind fun a => (f2 ρ).bind fun b => match ρ[j]? with
  | some (.z (.int n)) => noexR (den (fun d => fb [.z d, .z (.int n)]) a b)
  | _ => .bad
/-- what is hidden while the call runs -/
def hid (H : Hp) (c P : Addr) : Hp := fun b => if b = c ∨ b = P then none else H b
theorem hid_of {H : Hp} {c P b : Addr} (h1 : b ≠ c) (h2 : b ≠ P) : hid H c P b = H b := by
  unfold hid
  rw [if_neg (by simp [h1, h2])]
theorem hid_some {H : Hp} {c P b : Addr} {o : HO} (h : hid H c P b = some o) : b ≠ c ∧ b ≠ P ∧ H b = some o := by
  unfold hid at h
  split at h
  · cases h
  · rename_i z
    exact ⟨fun e => z (.inl e), fun e => z (.inr e), h⟩
/-- .. shown again -/
def shown (H1 H' : Hp) (c P : Addr) : Hp := fun b => if b = c ∨ b = P then H1 b else H' b
theorem shown_of {H1 H' : Hp} {c P b : Addr} (h1 : b ≠ c) (h2 : b ≠ P) : shown H1 H' c P b = H' b := by
  unfold shown
  rw [if_neg (by simp [h1, h2])]
theorem shown_c {H1 H' : Hp} {c P : Addr} : shown H1 H' c P c = H1 c := if_pos (.inl rfl)
theorem shown_P {H1 H' : Hp} {c P : Addr} : shown H1 H' c P P = H1 P := if_pos (.inr rfl)
def both (F F' : Hp) : Hp := fun b => match F b with
  | some o => some o
  | none => F' b
theorem both_l {F F' : Hp} {b : Addr} {o : HO} (h : F b = some o) : both F F' b = some o := by
  unfold both
  rw [h]
theorem both_r {F F' : Hp} {b : Addr} (h : F b = none) : both F F' b = F' b := by
  unfold both
  rw [h]
section
variable {K : PySem.W.Frag} {P0 : Program} {w : World} {q : Str} {F H H1 H' F' : Hp} {c P : Addr} {h h' : Heap}
/-- behind the call -/
theorem nx_shown (z : Fz F H) (e : ExtN H H1) (hc : H1 c = some (CodeO c q)) (t : Tabs [(P, q)] H1) (hF : ∀ ps, H P = some (.tbl ps) → F P = none) (tH : Tabs [(P, q)] H) (n : Nx [] (hid F c P) (hid H1 c P) F' H') (hc' : H' c = none) (hP' : H' P = none) :
    Nx [(P, q)] F H (both F F') (shown H1 H' c P) := by
  obtain ⟨ps0, tp0, _, _⟩ := tH (P, q) (by simp)
  have FP : F P = none := hF ps0 tp0
  obtain ⟨ps, tp, tk, ta⟩ := t (P, q) (by simp)
  have cP : c ≠ P := fun x => by
    have tp : H1 P = _ := tp
    rw [← x, hc] at tp
    cases tp
  have nP' : F' P = none := by
    cases x : F' P with
    | none => rfl
    | some o => have := n.z.sub _ _ x; rw [hP'] at this; cases this
  have nc' : F' c = none := by
    cases x : F' c with
    | none => rfl
    | some o => have := n.z.sub _ _ x; rw [hc'] at this; cases this
  have F1 : ∀ a o, F a = some o → H1 a = some o := fun a o x => e a o (z.sub a o x) fun ps y => z.nt a ps (by rw [x, y])
  refine ⟨fun a o x => both_l x, ⟨fun a o x => ?_, fun a ps x => ?_⟩, fun a o x nt => ?_, fun a o x => ?_, fun _ => ?_⟩
  · cases y : F a with
    | some u =>
      rw [both_l y] at x
      cases x
      have g := F1 a o y
      by_cases h1 : a = c
      · rw [h1, shown_c, ← h1]; exact g
      · have h2 : a ≠ P := fun x => by rw [x, FP] at y; cases y
        rw [shown_of h1 h2]
        exact n.z.sub _ _ (n.f _ _ (by rw [hid_of h1 h2]; exact y))
    | none =>
      rw [both_r y] at x
      have h1 : a ≠ c := fun w => by rw [w, nc'] at x; cases x
      have h2 : a ≠ P := fun w => by rw [w, nP'] at x; cases x
      rw [shown_of h1 h2]
      exact n.z.sub _ _ x
  · cases y : F a with
    | some u =>
      rw [both_l y] at x
      cases x
      exact z.nt _ _ y
    | none =>
      rw [both_r y] at x
      exact n.z.nt _ _ x
  · have g := e a o x nt
    by_cases h1 : a = c
    · rw [h1, shown_c, ← h1]; exact g
    · have h2 : a ≠ P := fun x => by
        rw [x] at g
        have tp : H1 P = _ := tp
        rw [tp] at g
        exact nt _ (Option.some.inj g).symm
      rw [shown_of h1 h2]
      exact n.h _ _ (by rw [hid_of h1 h2]; exact g) nt
  · cases y : F a with
    | some u =>
      rw [both_l y] at x
      exact .inl x
    | none =>
      rw [both_r y] at x
      have h1 : a ≠ c := fun w => by rw [w, nc'] at x; cases x
      have h2 : a ≠ P := fun w => by rw [w, nP'] at x; cases x
      refine .inr fun o' x' => ?_
      rcases n.new a o x with w | w
      · rw [hid_of h1 h2, y] at w; cases w
      · by_cases q : ∃ ps, o' = .tbl ps
        · exact .inl q
        · exact w o' (by rw [hid_of h1 h2]; exact e a o' x' fun ps y => q ⟨ps, y⟩)
  · intro p hp
    obtain rfl : p = (P, q) := by simpa using hp
    refine ⟨ps, by rw [shown_P]; exact tp, tk, fun pos cv hcv => ?_⟩
    obtain ⟨c0, e1, e2⟩ := ta pos cv hcv
    refine ⟨c0, e1, ?_⟩
    by_cases h1 : c0 = c
    · rw [h1, shown_c, ← h1]; exact e2
    · have h2 : c0 ≠ P := fun x => by
        rw [x] at e2
        have tp : H1 P = _ := tp
        rw [tp] at e2
        cases e2
      rw [shown_of h1 h2]
      exact n.h _ _ (by rw [hid_of h1 h2]; exact e2) LamX.codeO_ne
theorem hok_hid (x : HOk P0 w H1 h) (hc : ∀ xs, H1 c ≠ some (.tup xs)) (hP : ∀ xs, H1 P ≠ some (.tup xs)) (oc : ∀ a, H1 c ≠ some (.own a)) (oP : ∀ a, H1 P ≠ some (.own a)) : HOk P0 w (hid H1 c P) h := fun a o e => by
  obtain ⟨h1, h2, e⟩ := hid_some e
  refine (x a o e).stay (fun b u _ y => y) (fun b y => ?_) fun b xs y => ?_
  · rw [hid_of (fun w => oc a (by rw [← w]; exact y)) fun w => oP a (by rw [← w]; exact y)]
    exact y
  · rw [hid_of (fun w => hc xs (by rw [← w]; exact y)) fun w => hP xs (by rw [← w]; exact y)]
    exact y
theorem hok_shown {ps : Array Value} (x : HOk P0 w H1 h) (x' : HOk P0 w H' h') (hc : H1 c = some (CodeO c q)) (hP : H1 P = some (.tbl ps)) (kc : ∀ o, h.get? c = some o → h'.get? c = some o) (kP : ∀ o, h.get? P = some o → h'.get? P = some o) (hc' : H' c = none) (hP' : H' P = none) :
    HOk P0 w (shown H1 H' c P) h' := fun a o e => by
  by_cases h1 : a = c
  · subst h1
    rw [shown_c, hc] at e
    cases e
    obtain ⟨y1, ⟨u, y2⟩, y3⟩ := x a _ hc
    exact ⟨y3 _ _ y1 kc, ⟨u, kc u y2⟩, y3⟩
  · by_cases h2 : a = P
    · subst h2
      rw [shown_P, hP] at e
      cases e
      exact kP _ (x a _ hP)
    · rw [shown_of h1 h2] at e
      refine (x' a o e).stay (fun b u _ y => y) (fun b y => ?_) fun b xs y => ?_
      · rw [shown_of (fun w => by rw [w, hc'] at y; cases y) fun w => by rw [w, hP'] at y; cases y]
        exact y
      · rw [shown_of (fun w => by rw [w, hc'] at y; cases y) fun w => by rw [w, hP'] at y; cases y]
        exact y
theorem un_shown {fs : List Addr} {ps : Array Value} (u : Un fs [] (hid H1 c P) H' h h') (hc : H1 c = some (CodeO c q)) (hP : H1 P = some (.tbl ps)) : Un fs [] H1 (shown H1 H' c P) h h' := by
  have hn : ∀ b, H1 b = none → hid H1 c P b = none := fun b e => by
    unfold hid
    split
    · rfl
    · exact e
  refine ⟨fun b o e n => u.keep b o e (hn b n), fun b o e n => u.slot b o e (hn b n), fun b o e n nx => ?_, u.there, fun b xs e => ?_, fun b o w e => ?_, fun b qs e => ?_⟩
  · rw [shown_of (fun w => by rw [w, hc] at n; cases n) fun w => by rw [w, hP] at n; cases n]
    exact u.free b o e (hn b n) nx
  · have h1 : b ≠ c := fun w => by rw [w, hc] at e; cases e
    have h2 : b ≠ P := fun w => by rw [w, hP] at e; cases e
    rw [shown_of h1 h2]
    exact u.tups b xs (by rw [hid_of h1 h2]; exact e)
  · have h1 : b ≠ c := fun w => by rw [w, hc] at e; cases e
    have h2 : b ≠ P := fun w => by rw [w, hP] at e; cases e
    rw [shown_of h1 h2]
    exact u.frzs b o w (by rw [hid_of h1 h2]; exact e)
  · by_cases h2 : b = P
    · subst h2
      rw [shown_P, e]
      exact ⟨#[], by simp⟩
    · have h1 : b ≠ c := fun w => by rw [w, hc] at e; cases e
      rw [shown_of h1 h2]
      exact u.tbls b qs (by rw [hid_of h1 h2]; exact e)
end
theorem e_lam3 {X : Cx} {W : WX} {k m j : Nat} {x y pr : Str} {c0 P : Addr} {params : Arguments} {body : Expr} {scope : Scope} {fb : Rho → Res D} {den : (D → Res D) → D → D → Res D} {denA : Addr → (D → Res D) → List D → Res D} {e1 e2 : Expr} {p lpos pos : Pos} {f1 f2 : Rho → Res D} {f0 : Addr} {q : Str}
    (hg : Gl X x) (hm : X.mg x = some (.ref f0)) (hk : PySem.W.keepIn X.K (.ref f0) = true) (hf0 : f0 = He.ga X.K x)
    (O : ∀ (base : Heap) (f c : Addr) (cl : List (Str × Addr)) (n : Int), LamB base f c q params body scope cl y n → OkD X.prog X.w X.K X.mg base [] m x 3 (denA f fun d => fb [.z d, .z (.int n)])) (hind : ∀ f L a b, denA f L [a, b, .adr f] = den L a b)
    (TB : TabB X.base X.mg c0 P) (hcode : X.env.code = .ref c0) (hq : X.env.qual ++ "<lambda>" = q) (hdef : defaultsOf params X.env = ([], [])) (S : NScope [pr, y] [pr] [y] scope) (hcap : ∀ z ∈ scope.names, z.2 = .free → X.env.scope.names.lookup z.1 = some .cell ∨ X.env.scope.names.lookup z.1 = some .free) (hfr : ∀ z ∈ [y], (z, NameKind.free) ∈ scope.names) (hj : X.N[j]? = some y)
    (hfn : ∀ z, X.fn z = true) (hr : Room k X.A) (hmk : m ≤ k) (h1 : DE X [(P, q)] W e1 f1) (h2 : DE X [(P, q)] W e2 f2)
    (hdb : (x == ("__debug__" : Str)) = false := by decide) (he : starEach [e1, e2, .Lambda params body scope lpos] X.env = (false, eval e1 X.env) :: starEach [e2, .Lambda params body scope lpos] X.env := by rfl)
    (hpl : (backTo pos (starEach [e2, .Lambda params body scope lpos] X.env)).any (·.1) = false := by rfl)
    (hs : backTo pos (starEach [e1, e2, .Lambda params body scope lpos] X.env) = [(false, eval e1 X.env), (false, eval e2 X.env), (false, eval (.Lambda params body scope lpos) X.env)] := by rfl) :
    DE X [(P, q)] W (.Call (.Name x p) [e1, e2, .Lambda params body scope lpos] [] pos) (lam3 den fb j f1 f2) := by
  subst hf0
  refine ⟨fun pins s σ H Q I ⟨ρ, F, a, h⟩ => ?_⟩
  refine wpAny_Call_Name_kw (ld_glob I hg hm ?_ hdb)
  refine PySem.W.callWith_K (h₀ := X.base) I.ok.mod.kin hk ?_ he hpl
  rw [hs]
  refine Calls.spliced_cons (thn (h1.run pins s σ H _ I ⟨ρ, F, a, aft.bind (R := Rp X.K) h⟩) fun u1 s1 ⟨v1, H1, I1, r1, d1, F1, _, n1, rd1, q1⟩ => ?_)
  refine Calls.spliced_cons (thn (h2.run pins s1 σ H1 _ I1 ⟨ρ, F1, a.nx n1, aft.bind (R := Rp X.K) q1⟩) fun u2 s2 ⟨v2, H2, I2, r2, d2, F2, _, n2, rd2, q2⟩ => ?_)
  have a2 := (a.nx n1).nx n2
  have hfree : ∀ z ∈ scope.names, z.2 = .free → ∃ c, X.env.cells.lookup z.1 = some c := fun z hz e => (hcap z hz e).elim (fun w => I.ok.has _ (.inl w)) fun w => I.ok.has _ (.inr w)
  refine Calls.spliced_cons (LamX.lam_make2 I2 TB hcode (T := [(P, q)]) (by rw [hq]; simp) (fun p hp _ => by rw [hq]; exact congrArg Prod.snd (List.mem_singleton.mp hp)) a2.t hdef hfree fun f c pm ctv H3 s3 I3 eN T3 hf hfn0 hfs hco => Calls.spliced_nil ⟨I3.kIn, ?_⟩)
  rw [hq] at hf hco
  have e1 : ∃ n, ρ[j]? = some (.z (.int n)) := by
    cases w : ρ[j]? with
    | none => rw [w] at q2; exact q2.elim
    | some en =>
      rw [w] at q2
      cases en with
      | u => exact q2.elim
      | o d => exact q2.elim
      | z d =>
        cases d with
        | int n => exact ⟨n, rfl⟩
        | _ => exact q2.elim
  obtain ⟨n, e1⟩ := e1
  rw [e1] at q2
  replace q2 : aft (Rp X.K) X.K [(P, q)] W σ F2 H2 Q (noexR (den (fun d => fb [.z d, .z (.int n)]) d1 d2)) := q2
  -- the cells
  obtain ⟨v, hv, rv⟩ := a2.r.z j _ e1
  cases rv
  have CC := NdefX.cells_of I3 (Caps.made (X := X) (scope := scope) (fr := [y]) (js := [j]) I3.ok hcap hfr (by simp [hj]))
  obtain ⟨cell, lc, hcell⟩ := CC.has 0 y rfl
  obtain ⟨u, ru, icell⟩ := hcell (.int n) (by simp [NdefX.slotAt, hv])
  obtain ⟨t, rfl⟩ := ru
  obtain ⟨ps, tp, tk, ta⟩ := T3 (P, q) (by simp)
  replace tp : H3 P = some (.tbl ps) := tp
  have cP : c ≠ P := fun w => by rw [w, tp] at hco; cases hco
  -- the base within
  let cl := cloFrom X.env.cells scope.names []
  let SS : Addr → Prop := fun b => (∃ o, X.base.get? b = some o) ∨ b = f ∨ b = c ∨ b = P ∨ ∃ z, cl.lookup z = some b
  have kb : ∀ b o, X.base.get? b = some o → (only s3.heap SS).get? b = some o := fun b o w => by rw [only_in (.inl ⟨o, w⟩)]; exact I3.bk b o w
  have ccl : ∀ z b, cl.lookup z = some b → X.env.cells.lookup z = some b := fun z b w => NdefX.clo_cm hfree w
  have hid0 : ∀ b, SS b → (∃ o, s3.heap.get? b = some o) → hid H3 c P b = none := fun b hb _ => by
    by_cases w : b = c ∨ b = P
    · exact if_pos w
    · rw [hid_of (fun y => w (.inl y)) fun y => w (.inr y)]
      rcases hb with ⟨o, hb⟩ | hb | hb | hb | ⟨z, hb⟩
      · exact (I3.bs b o hb).2
      · rw [hb]; exact hfn0
      · exact absurd (.inl hb) w
      · exact absurd (.inr hb) w
      · exact I3.freeC z b (ccl z b hb)
  have nfr : ∀ b ∈ frs X.stack, ¬ SS b := fun b hb hS => by
    have hn := I3.stkFree b hb
    rcases hS with ⟨o, hS⟩ | hS | hS | hS | ⟨z, hS⟩
    · have := I3.stack.mem hb
      rw [this.1] at hS; cases hS
    · rw [hS] at hb; exact hfs hb
    · rw [hS, hco] at hn; cases hn
    · rw [hS, tp] at hn; cases hn
    · have cz := ccl z b hS
      rcases List.mem_cons.mp (I3.stkSub b hb) with w | w
      · exact I3.cne z b cz w
      · obtain ⟨_, o, ho, _⟩ := I3.ok.funs.mem w
        exact absurd (Nat.lt_of_lt_of_le (Heap.lt_size ho) (I3.ok.cab z b (hfn z) cz)) (Nat.lt_irrefl _)
  have B : LamB (only s3.heap SS) f c q params body scope cl y n := by
    refine ⟨⟨pm, ctv, by rw [only_in (.inr (.inl rfl))]; exact hf⟩, ?_, fun z b w => ?_, CC.inj, ⟨cell, t, lc, ?_⟩⟩
    · obtain ⟨⟨oc, vs, t, w1, w2, w3⟩, _, _⟩ := I3.hok c _ hco
      exact ⟨c, oc, vs, t, rfl, by rw [only_in (.inr (.inr (.inl rfl)))]; exact w1, w2, w3⟩
    · obtain ⟨_, v, o, ho, hd⟩ := CC.all z b w
      exact ⟨v, o, by rw [only_in (.inr (.inr (.inr (.inr ⟨z, w⟩))))]; exact ho, hd⟩
    · obtain ⟨o, ho, hd⟩ := icell
      exact ⟨o, by rw [only_in (.inr (.inr (.inr (.inr ⟨y, lc⟩))))]; exact ho, hd⟩
  have OK := O _ f c cl n B
  obtain ⟨fd, ps', G, bn⟩ := OK.ex
  have E0 : Env0 X.prog X.w X.K X.mg (only s3.heap SS) X.A X.stack s3 (hid H3 c P) := by
    obtain ⟨mb, m1, m2⟩ := I3.mod.blt
    refine ⟨I3.ok.frames, ⟨I3.mod.kin.keeps kb, I3.mod.glob.keeps kb, ⟨mb, m1.keeps kb, m2⟩, I3.mod.nolimit.keeps kb⟩, fun b o w => ?_, by rw [only_size]; exact Nat.le_refl _, frames_on I3.stack fun b hb => only_out (nfr b hb), fun b hb => ?_, hok_hid I3.hok ?_ ?_ ?_ ?_, I3.bare⟩
    · obtain ⟨w1, w2⟩ := only_some w
      exact ⟨w2, hid0 b w1 ⟨o, w2⟩⟩
    · have w := I3.stkFree b hb
      unfold hid
      split
      · rfl
      · exact w
    · intro xs w; rw [hco] at w; cases w
    · intro xs w; rw [tp] at w; cases w
    · intro xs w; rw [hco] at w; cases w
    · intro xs w; rw [tp] at w; cases w
  -- what is frozen within
  have t2 := a2.t
  obtain ⟨qs, tq, _, _⟩ := t2 (P, q) (by simp)
  replace tq : H2 P = some (.tbl qs) := tq
  have FP : F2 P = none := by
    cases w : F2 P with
    | none => rfl
    | some o =>
      have := a2.z.sub _ _ w
      rw [tq] at this
      cases this
      exact absurd w (a2.z.nt _ _)
  have F23 : ∀ b o, F2 b = some o → H3 b = some o := fun b o w => eN b o (a2.z.sub b o w) fun ps z => a2.z.nt b ps (by rw [w, z])
  have mo : Most F2 (hid F2 c P) := fun b o w nx => by
    have g := F23 b o w
    rw [hid_of (fun z => by rw [z, hco] at g; exact nx _ (Option.some.inj g).symm) fun z => by rw [z, FP] at w; cases w]
    exact w
  have zF : Fz (hid F2 c P) (hid H3 c P) := ⟨fun b o w => by
    obtain ⟨w1, w2, w⟩ := hid_some w
    rw [hid_of w1 w2]
    exact F23 b o w, fun b ps w => a2.z.nt b ps (hid_some w).2.2⟩
  have sp : spD X.K [] 3 (denA f fun d => fb [.z d, .z (.int n)]) [v1, v2, .ref f] (hid H3 c P) (fun v' H' => ∃ F' d', den (fun d => fb [.z d, .z (.int n)]) d1 d2 = .ok d' ∧ Nx [] (hid F2 c P) (hid H3 c P) F' H' ∧ Rp X.K F' v' d') (fun _ _ _ => False) := by
    refine ⟨hid F2 c P, [d1, d2, .adr f], zF, fun p hp => by simp at hp, .cons ((rd1.mono n2.f).less mo) (.cons (rd2.less mo) (.cons (.adr f) .nil)), rfl, ?_⟩
    rw [hind]
    cases w : den (fun d => fb [.z d, .z (.int n)]) d1 d2 with
    | ok d' => exact fun v' F' H' nx rd => ⟨F', d', rfl, nx, rd⟩
    | ex m => rw [w] at q2; exact q2.elim
    | bad => rw [w] at q2; exact q2.elim
  have vals : Vals [v1, v2, .ref f] [u1, u2, .ref f] := .cons r1 (.cons r2 (.cons rfl .nil))
  have hl : [u1, u2, Value.ref f].length = ps'.length := by rw [← G.len _ _ _ _ sp]; rfl
  have bb := bn s3 [u1, u2, .ref f] I3.kIn (by rw [List.append_nil]; exact hl)
  rw [List.append_nil] at bb
  refine wpAny_call (codeAny_mono (G.run X.A X.stack s3 _ ⟨[u1, u2, .ref f], []⟩ [u1, u2, .ref f] _ _ _ (hr.mono hmk) E0 bb vals sp) fun r s4 hq => ?_)
  match r, hq with
  | .error er, hq => exact (cx_false hq).elim
  | .ok .next, hq => exact hq.elim
  | .ok .brk, hq => exact hq.elim
  | .ok .cont, hq => exact hq.elim
  | .ok (.ret u'), hq =>
    obtain ⟨v', H4, os, bare, un, hok, rv, F', d', ed, nx, rd⟩ := hq
    have keepS : ∀ b, SS b → ∀ o, s3.heap.get? b = some o → s4.heap.get? b = some o ∧ H4 b = none := fun b hb o w => ⟨un.keep b o w (hid0 b hb ⟨o, w⟩) (fun z => nfr b z hb) (by simp), un.free b o w (hid0 b hb ⟨o, w⟩) (by simp)⟩
    obtain ⟨_, ⟨oc, hoc⟩, _⟩ := I3.hok c _ hco
    have hop := I3.hok P _ tp
    have c4 : H4 c = none := (keepS c (.inr (.inr (.inl rfl))) _ hoc).2
    have P4 : H4 P = none := (keepS P (.inr (.inr (.inr (.inl rfl)))) _ hop).2
    refine I3.after ⟨v', shown H3 H4 c P, os, bare, un_shown un hco tp, hok_shown I3.hok hok hco tp (fun o w => (keepS c (.inr (.inr (.inl rfl))) o w).1) (fun o w => (keepS P (.inr (.inr (.inr (.inl rfl)))) o w).1) c4 P4, rv, ?_⟩
    rw [ed] at q2
    have nn := nx_shown a2.z eN hco T3 (fun _ _ => FP) a2.t nx c4 P4
    refine q2 v' (both F2 F') (shown H3 H4 c P) nn (rd.mono fun b o w => ?_)
    cases y : F2 b with
    | none => rw [both_r y]; exact w
    | some o2 =>
      rw [both_l y]
      by_cases z : b = c ∨ b = P
      · exfalso
        have := nx.z.sub _ _ w
        rcases z with z | z
        · rw [z, c4] at this; cases this
        · rw [z, P4] at this; cases this
      · have g : hid F2 c P b = some o2 := by rw [hid_of (fun y => z (.inl y)) fun y => z (.inr y)]; exact y
        rw [nx.f _ _ g] at w
        exact w
end DN
/-! R-mode: one slot holds a reader (an instance with the fields text, at), which calls change -/
namespace DN
open PySem PySem.Spec PyProof.Rows L2
open LamX (Tabs ExtN)

abbrev RSt := Str × Int
inductive RR (α : Type) where
  | ok (a : α) (m : RSt) | ex (n : Str) | bad
def RR.bind {α β : Type} : RR α → (α → RSt → RR β) → RR β
  | .ok a m, f => f a m
  | .ex n, _ => .ex n
  | .bad, _ => .bad
def rdO (K : PySem.W.Frag) (dx : Addr) (m : RSt) : HO := .ins (He.ga K "Reader") dx [("text", .str m.1), ("at", .int m.2)]
def RdAt (K : PySem.W.Frag) (H : Hp) (p : Addr) (m : RSt) : Prop := ∃ dx, H p = some (rdO K dx m)
theorem rdO_nt {K : PySem.W.Frag} {dx : Addr} {m : RSt} : ∀ ps, rdO K dx m ≠ .tbl ps := fun ps z => by unfold rdO at z; cases z
theorem rdO_tup {K : PySem.W.Frag} {dx : Addr} {m : RSt} : ∀ xs, rdO K dx m ≠ .tup xs := fun ps z => by unfold rdO at z; cases z
/-- H without p -/
def mask (H : Hp) (p : Addr) : Hp := fun b => if b = p then none else H b
theorem mask_of {H : Hp} {p b : Addr} (h : b ≠ p) : mask H p b = H b := if_neg h
structure Rg (K : PySem.W.Frag) (T : List (Addr × Str)) (F0 G F H : Hp) (σ : L2.St) (ρ : Rho) (i : Nat) (p : Addr) (m : RSt) : Prop where
  at_ : At K T F H σ ρ
  nx : Nx T F0 G F H
  no : ∀ (j : Nat) (d : D), ρ[j]? ≠ some (En.o d)
  me : σ[i]? = some (some (.ref p))
  st : RdAt K H p m
  fF : F p = none
  fG : ∀ o, G p = some o → ∃ ps, o = .tbl ps
def aftR {α β : Type} (R : Hp → α → β → Prop) (K : PySem.W.Frag) (T : List (Addr × Str)) (E : XK) (F0 G F : Hp) (i : Nat) (σ : L2.St) (ρ : Rho) (p : Addr) (Q : α → Hp → Prop) : RR β → Prop
  | .ok b m => ∀ a F' H', Rg K T F0 G F' H' σ ρ i p m → Sub F F' → R F' a b → Q a H'
  | .ex n => ∀ F' H', Nx T F0 G F' H' → Tabs T H' → Sub F F' → E (.ref (He.ga K n)) none H'
  | .bad => False
section
variable {K : PySem.W.Frag} {T : List (Addr × Str)} {E : XK} {F0 G F H F1 H1 : Hp} {σ : L2.St} {ρ : Rho} {i : Nat} {p : Addr} {m : RSt}
theorem Rg.step (g : Rg K T F0 G F H σ ρ i p m) (n : Nx T F H F1 H1) : Rg K T F0 G F1 H1 σ ρ i p m := by
  obtain ⟨dx, h⟩ := g.st
  exact ⟨g.at_.nx n, g.nx.trans n, g.no, g.me, ⟨dx, n.keep h rdO_nt⟩, n.out h rdO_nt g.fF rdO_tup, g.fG⟩
theorem aftR.mono {α β : Type} {R : Hp → α → β → Prop} {Q : α → Hp → Prop} {r : RR β} (e : Sub F F1) (h : aftR R K T E F0 G F i σ ρ p Q r) : aftR R K T E F0 G F1 i σ ρ p Q r := by
  cases r with
  | ok b m => exact fun a F' H' g s => h a F' H' g (e.trans s)
  | ex n => exact fun F' H' g t s => h F' H' g t (e.trans s)
  | bad => exact h
theorem aftR.bind {α β γ δ : Type} {R : Hp → α → β → Prop} {S : Hp → γ → δ → Prop} {Q : γ → Hp → Prop} {r : RR β} {k : β → RSt → RR δ} (h : aftR S K T E F0 G F i σ ρ p Q (r.bind k)) :
    aftR R K T E F0 G F i σ ρ p (fun a H1 => ∃ b m1 F1, Sub F F1 ∧ Rg K T F0 G F1 H1 σ ρ i p m1 ∧ R F1 a b ∧ aftR S K T E F0 G F1 i σ ρ p Q (k b m1)) r := by
  cases r with
  | ok b m => exact fun a F2 H2 g s ra => ⟨b, m, F2, s, g, ra, aftR.mono s h⟩
  | ex n => exact h
  | bad => exact h
theorem aftR.imp {α β : Type} {R : Hp → α → β → Prop} {Q Q' : α → Hp → Prop} {r : RR β} (h : aftR R K T E F0 G F i σ ρ p Q r) (hq : ∀ a H', Q a H' → Q' a H') : aftR R K T E F0 G F i σ ρ p Q' r := by
  cases r with
  | ok b m => exact fun a F' H' g s ra => hq a H' (h a F' H' g s ra)
  | ex n => exact h
  | bad => exact h
end
section
variable {X : Cx} {T : List (Addr × Str)} {E : XK} {F0 G : Hp} {i : Nat}
end
/-! ### statements -/
inductive SRR where
  | nx (ρ : Rho) (m : RSt) | rt (d : D) (m : RSt) | ex (n : Str) | bad
def bindRS {α : Type} (r : RR α) (k : α → RSt → SRR) : SRR := match r with
  | .ok a m => k a m
  | .ex n => .ex n
  | .bad => .bad
def aftRS (K : PySem.W.Frag) (T : List (Addr × Str)) (E : XK) (F0 G F : Hp) (i : Nat) (p : Addr) (Z : Ends) : SRR → Prop
  | .nx ρ m => ∀ σ F' H', Rg K T F0 G F' H' σ ρ i p m → Sub F F' → Z.nx σ H'
  | .rt d m => ∀ v F' H', Nx T F0 G F' H' → RdAt K H' p m → F' p = none → Rp K F' v d → Z.rt v H'
  | .ex n => ∀ F' H', Nx T F0 G F' H' → Tabs T H' → Sub F F' → E (.ref (He.ga K n)) none H'
  | .bad => False
section
variable {K : PySem.W.Frag} {T : List (Addr × Str)} {E : XK} {F0 G F H F1 H1 : Hp} {σ : L2.St} {ρ : Rho} {i : Nat} {p : Addr} {m : RSt} {Z : Ends}
theorem aftRS.mono {r : SRR} (e : Sub F F1) (h : aftRS K T E F0 G F i p Z r) : aftRS K T E F0 G F1 i p Z r := by
  cases r with
  | nx ρ m => exact fun σ F' H' g s => h σ F' H' g (e.trans s)
  | rt d m => exact h
  | ex n => exact fun F' H' g t s => h F' H' g t (e.trans s)
  | bad => exact h
theorem aftRS.bind {α β : Type} {R : Hp → α → β → Prop} {r : RR β} {k : β → RSt → SRR} (h : aftRS K T E F0 G F i p Z (bindRS r k)) :
    aftR R K T E F0 G F i σ ρ p (fun a H1 => ∃ b m1 F1, Sub F F1 ∧ Rg K T F0 G F1 H1 σ ρ i p m1 ∧ R F1 a b ∧ aftRS K T E F0 G F1 i p Z (k b m1)) r := by
  cases r with
  | ok b m => exact fun a F2 H2 g s ra => ⟨b, m, F2, s, g, ra, aftRS.mono s h⟩
  | ex n => exact h
  | bad => exact h
end
section
variable {X : Cx} {T : List (Addr × Str)} {E : XK} {F0 G : Hp} {i : Nat}
theorem Rg.put {K : PySem.W.Frag} {F H : Hp} {σ : L2.St} {ρ : Rho} {p : Addr} {m : RSt} {j : Nat} {v : V} {d : D} (g : Rg K T F0 G F H σ ρ i p m) (hj : j ≠ i) (r : Rp K F v d) : Rg K T F0 G F H (σ.set j (some v)) (ρ.set j (.z d)) i p m := by
  refine ⟨⟨g.at_.z, g.at_.t, g.at_.r.set r⟩, g.nx, fun k d' e => ?_, ?_, g.st, g.fF, g.fG⟩
  · rw [List.getElem?_set] at e
    split at e
    · split at e <;> cases e
    · exact g.no k d' e
  · rw [List.getElem?_set, if_neg hj]
    exact g.me
/-! self.at = e -/
theorem rdO_code {K : PySem.W.Frag} {dx a : Addr} {m : RSt} : ∀ q, rdO K dx m ≠ LamX.CodeO a q := fun q z => by unfold rdO LamX.CodeO at z; cases z
end
/-! ### methods -/
section
variable {K : PySem.W.Frag} {T : List (Addr × Str)} {E : XK} {F0 G F H F1 H1 : Hp} {σ : L2.St} {ρ : Rho} {i : Nat} {p : Addr} {m : RSt}
theorem mask_tabs (h : RdAt K H p m) (t : Tabs T H) : Tabs T (mask H p) := fun q hq => by
  obtain ⟨dx, h⟩ := h
  obtain ⟨ps, k1, k2, k3⟩ := t q hq
  refine ⟨ps, by rw [mask_of fun z => by rw [z, h] at k1; exact rdO_nt ps (Option.some.inj k1)]; exact k1, k2, fun pos cv hc => ?_⟩
  obtain ⟨c, e1, e2⟩ := k3 pos cv hc
  exact ⟨c, e1, by rw [mask_of fun z => by rw [z, h] at e2; exact rdO_code _ (Option.some.inj e2)]; exact e2⟩
/-- a call's changes behind what was there -/
theorem Nx.over (n1 : Nx T F0 G F H) (fG : ∀ o, G p = some o → ∃ ps, o = .tbl ps) (st : RdAt K H p m) (n2 : Nx T F (mask H p) F1 H1) : Nx T F0 G F1 H1 := by
  refine ⟨n1.f.trans n2.f, n2.z, fun b o e nt => ?_, fun a o e => ?_, fun t => n2.tab (mask_tabs st (n1.tab t))⟩
  · refine n2.h b o ?_ nt
    rw [mask_of fun z => by
      rw [z] at e
      obtain ⟨ps, w⟩ := fG o e
      exact nt ps w]
    exact n1.h b o e nt
  · rcases n2.new a o e with q | q
    · exact n1.new a o q
    · refine .inr fun o' e' => ?_
      by_cases w : ∃ ps, o' = .tbl ps
      · exact .inl w
      · refine q o' ?_
        rw [mask_of fun z => by
          rw [z] at e'
          exact w (fG o' e')]
        exact n1.h a o' e' fun ps z => w ⟨ps, z⟩
end
section
variable {X : Cx} {T : List (Addr × Str)} {E : XK} {F0 G : Hp} {i : Nat}
end
/-! ### a new reader -/
section
variable {X : Cx} {T : List (Addr × Str)} {E : XK} {F0 H0 : Hp}
end
end DN
/-! books: dicts whose keys are tuples of ints -/
namespace DN
open PySem PySem.Spec PyProof.Rows L2
open LamX (Tabs ExtN)
def kI (ks : List Int) : List Key := ks.map Sum.inl
def intsOf : List Key → Option (List Int)
  | [] => some []
  | .inl i :: r => (intsOf r).map fun l => i :: l
  | _ => none
def vInt : V → Option D
  | .int i => some (.int i)
  | _ => none
def getT : D → D → Option D
  | .dT kvs, .pw ks => (valV kvs (kI ks)).bind vInt
  | _, _ => none
section
variable {X : Cx} {T : List (Addr × Str)} {W : WX} {F0 H0 : Hp}
/-! ### the frame's own -/
theorem ntTd {kvs : List (List Key × V)} : ∀ ps, HO.dT kvs ≠ .tbl ps := fun ps z => by cases z
theorem dT_code {kvs : List (List Key × V)} {a : Addr} : ∀ q, HO.dT kvs ≠ LamX.CodeO a q := fun q z => by unfold LamX.CodeO at z; cases z
/-! ### made fast: from here on it is not changed -/
theorem OwnAt.sub {K : PySem.W.Frag} {F F' H : Hp} {p : Addr} (e : Sub F F') : ∀ {d : D}, OwnAt K F H p d → OwnAt K F' H p d
  | .lst _, ⟨xs, h, r⟩ => ⟨xs, h, r.mono e⟩
  | .dK _, h => h
  | .dT _, h => h
  | .dic _ _ _ _, ⟨es, h, r⟩ => ⟨es, h, r.mono e⟩
  | .ins _ _ _, ⟨dx, ws, h, r⟩ => ⟨dx, ws, h, r.mono e⟩
theorem Sg.fast {K : PySem.W.Frag} {F H : Hp} {σ : L2.St} {ρ : Rho} {i : Nat} {p : Addr} {kvs : List (List Key × V)} {od : Obj} (g : Sg K T F0 H0 F H σ ρ) (hi : ρ[i]? = some (.o (.dT kvs))) (hs : σ[i]? = some (some (.ref p))) (hp : F p = none) (hx : H p = some (.dT kvs)) :
    Sg K T F0 H0 (upd F p (.frz od (.dT kvs))) (upd H p (.frz od (.dT kvs))) σ (ρ.set i (.z (.dT kvs))) ∧ Sub F (upd F p (.frz od (.dT kvs))) := by
  have il : i < ρ.length := (List.getElem?_eq_some_iff.mp hi).1
  have ow := g.ow i _ p hi hs
  have sb : Sub F (upd F p (.frz od (.dT kvs))) := fun a o e => by rw [upd_ne fun z => by rw [z, hp] at e; cases e]; exact e
  have z1 : Fz (upd F p (.frz od (.dT kvs))) (upd H p (.frz od (.dT kvs))) := ⟨fun a o e => by
    by_cases ha : a = p
    · subst ha; rw [upd_same] at e ⊢; exact e
    · rw [upd_ne ha] at e ⊢; exact g.at_.z.sub _ _ e, fun a ps e => by
    by_cases ha : a = p
    · subst ha; rw [upd_same] at e; cases e
    · rw [upd_ne ha] at e; exact g.at_.z.nt _ _ e⟩
  refine ⟨⟨⟨z1, tabs_updG g.at_.t hx ntTd dT_code, ?_⟩, ⟨g.nx.f.trans sb, z1, fun b o eb no => ?_, fun a o e => ?_, fun t => tabs_updG (g.nx.tab t) hx ntTd dT_code⟩, fun j e q h1 h2 => ?_⟩, sb⟩
  · refine ⟨by rw [List.length_set]; exact g.at_.r.len, fun j e hj => ?_, fun j e hj => ?_, fun j k a b q1 q2 hn h1 h2 h3 h4 => ?_⟩
    · rw [List.getElem?_set] at hj
      by_cases hij : i = j
      · subst hij
        rw [if_pos rfl, if_pos il] at hj
        cases hj
        exact ⟨_, hs, .dT ⟨od, upd_same⟩⟩
      · rw [if_neg hij] at hj
        obtain ⟨v, e1, e2⟩ := g.at_.r.z j e hj
        exact ⟨v, e1, e2.mono sb⟩
    · rw [List.getElem?_set] at hj
      by_cases hij : i = j
      · subst hij
        rw [if_pos rfl, if_pos il] at hj
        cases hj
      · rw [if_neg hij] at hj
        obtain ⟨q, h1, h2, h3⟩ := g.at_.r.o j e hj
        have hne : p ≠ q := g.at_.r.ne i j _ _ p q hij hi hj hs h1
        exact ⟨q, h1, by rw [upd_ne (Ne.symm hne)]; exact h2, (h3.updN (Ne.symm hne)).sub sb⟩
    · have o1 : ∀ j e, (ρ.set i (.z (.dT kvs)))[j]? = some (En.o e) → ρ[j]? = some (En.o e) := fun j e h => by
        rw [List.getElem?_set] at h
        by_cases hij : i = j
        · subst hij
          rw [if_pos rfl, if_pos il] at h
          cases h
        · rw [if_neg hij] at h; exact h
      exact g.at_.r.ne j k a b q1 q2 hn (o1 j a h1) (o1 k b h2) h3 h4
  · rw [upd_ne fun z => by
      subst z
      obtain ⟨ps, k⟩ := ow o eb
      exact no ps k]
    exact g.nx.h _ _ eb no
  · by_cases ha : a = p
    · subst ha
      exact .inr fun o' e' => .inl (ow o' e')
    · rw [upd_ne ha] at e
      exact g.nx.new a o e
  · rw [List.getElem?_set] at h1
    by_cases hij : i = j
    · subst hij
      rw [if_pos rfl, if_pos il] at h1
      cases h1
    · rw [if_neg hij] at h1
      exact g.ow j e q h1 h2
end
end DN
/-! tuples of ints whose object is known: how they come to be, and how that is forgotten -/
namespace DN
open PySem PySem.Spec PyProof.Rows L2
open LamX (Tabs ExtN)
section
variable {X : Cx} {T : List (Addr × Str)} {W : WX}
end
end DN
/-! {k: v} with one key, a tuple of ints: a frozen book -/
namespace L2
open PySem PySem.Spec PyProof.Rows
end L2
namespace DN
open PySem PySem.Spec PyProof.Rows L2
open LamX (Tabs ExtN)
end DN
/-! dict(book): the keys' hashes are apart -/
namespace L2
open PySem PySem.Spec PyProof.Rows
def keyHashI (ks : List Int) : Int := reduceHash (Builtin.Tuple.tupleHashOf (ks.map hashInt))
end L2
namespace DN
open PySem PySem.Spec PyProof.Rows L2
open LamX (Tabs ExtN)
def keysI : List (List Key × V) → Option (List (List Int))
  | [] => some []
  | q :: r => (intsOf q.1).bind fun l => (keysI r).map fun ls => l :: ls
/-- the keys hash apart -/
def apart (kvs : List (List Key × V)) : Bool := match keysI kvs with
  | some ls => decide ((ls.map keyHashI).Nodup)
  | none => false
section
variable {X : Cx} {T : List (Addr × Str)} {W : WX} {F0 H0 : Hp}
end
end DN
/-! book == {} -/
namespace L2
open PySem PySem.Spec PyProof.Rows
end L2
namespace DN
open PySem PySem.Spec PyProof.Rows L2
open LamX (Tabs ExtN)
end DN
/-! sorted(book.items()) -/
namespace L2
open PySem PySem.Spec PyProof.Rows PySem.W
/-- a book's entries -/
abbrev Ent := List Int × Int
def encB (e : Ent) : PyData := .tuple [.tuple (e.1.map .int), .int e.2]
theorem reads_ints {h : Heap} : ∀ {ns : List Int} {us : List Value}, Vals (ns.map V.int) us → ReadsAll h us (ns.map .int) []
  | [], _, r => by cases r; exact .nil
  | n :: ns, _, r => by
    rw [List.map_cons] at r
    cases r with
    | cons h1 t =>
      obtain ⟨tk, rfl⟩ := h1
      exact .cons (as := []) (bs := []) (.int n tk) (reads_ints t)
section
variable {X : Cx}
/-- a pair that was made of a book's entry: its address, the entry, the key's address -/
abbrev Made1 := Addr × Ent × Addr
def Laid1 (H : Hp) (h : Heap) (z : Made1) : Prop := H z.2.2 = some (.tup (z.2.1.1.map V.int)) ∧ ∃ t, h.get? z.1 = some { cls := .type "tuple", data := .seq #[Value.ref z.2.2, Value.int z.2.1.2 t] }
/-- one address, one pair -/
theorem Laid1.same {H : Hp} {h : Heap} {z z' : Made1} (l : Laid1 H h z) (l' : Laid1 H h z') (e : z'.1 = z.1) : [V.ref z'.2.2, V.int z'.2.1.2] = [V.ref z.2.2, V.int z.2.1.2] := by
  obtain ⟨_, _, g⟩ := l
  obtain ⟨_, _, g'⟩ := l'
  rw [e, g] at g'
  injection g' with g'
  simp at g'
  rw [g'.1, g'.2.1]
/-- a pair read as data -/
theorem Laid1.reads {P : Program} {w : World} {H : Hp} {h0 h h' : Heap} {z : Made1} (ok : HOk P w H h0) (k0 : ∀ b o, h0.get? b = some o → h'.get? b = some o) (k : ∀ b o, h.get? b = some o → h'.get? b = some o) (l : Laid1 H h z) : Reads h' (.ref z.1) (encB z.2.1) [] := by
  obtain ⟨key, t, g⟩ := l
  obtain ⟨_, its, rv, ot, e, c, n, d⟩ := (show ObjOk P w H h0 z.2.2 (.tup (z.2.1.1.map V.int)) from ok _ _ key)
  have rk : Reads h' (.ref z.2.2) (.tuple (z.2.1.1.map .int)) [] := Reads.tuple (k0 _ _ e) c d (by simpa using reads_ints rv)
  exact Reads.tuple (k _ _ g) rfl rfl (.cons (as := []) (bs := []) rk (.cons (as := []) (bs := []) (.int _ _) .nil))
end
end L2
namespace L2
open PySem PySem.Spec PyProof.Rows
end L2
namespace DN
open PySem PySem.Spec PyProof.Rows L2
open LamX (Tabs ExtN)
def vNum : V → Option Int
  | .int n => some n
  | _ => none
def ents : List (List Key × V) → Option (List Ent)
  | [] => some []
  | q :: r => (intsOf q.1).bind fun l => (vNum q.2).bind fun n => (ents r).map fun es => (l, n) :: es
section
variable {X : Cx} {T : List (Addr × Str)} {W : WX}
end
end DN
/-! tuple(sorted(..)) with its object known; dict of such a tuple -/
namespace L2
open PySem PySem.Spec PyProof.Rows PySem.W
end L2
namespace DN
open PySem PySem.Spec PyProof.Rows L2
open LamX (Tabs ExtN)
section
variable {X : Cx} {T : List (Addr × Str)} {W : WX}
end
end DN
namespace DN
open PySem PySem.Spec PyProof.Rows L2 PySem.W
open LamX (Tabs ExtN)
end DN
namespace DN
end DN
/-! is, is not of two truths -/
namespace DN
open PySem PySem.Spec PyProof.Rows L2
end DN
/-! a tuple times any small number: none and once by DN42, more by DN1 -/
namespace DN
open PySem PySem.Spec PyProof.Rows L2
end DN
namespace LW
open PySem PySem.Spec PyProof.Rows L2 DN
open TL (numL numL_lt numL_step numL_digits numL_ne tl_num)

/-! ### figures of whole numbers -/
def figs (n : Nat) : Nat := (numL n).length
end LW
namespace LW
open PySem PySem.Spec PyProof.Rows L2 DN
open TL (numL numL_lt numL_step numL_digits numL_ne tl_num)
/-! ### texts -/
end LW
namespace LW
open PySem PySem.Spec PyProof.Rows L2 DN
open TL (numL numL_lt numL_step numL_digits numL_ne tl_num)
/-! ### numbers' texts -/
def S (l : List Nat) : Str := ⟨l.toArray⟩
end LW
namespace LW
open PySem PySem.Spec PyProof.Rows L2 DN
/-! ### rounding, plainly -/
inductive Hw where | nought | more | even | away
  deriving DecidableEq
inductive Mn where | even | away | nought | up | down
  deriving DecidableEq
def Hw.s : Hw → Str
  | .nought => "nought" | .more => "more" | .even => "even" | .away => "away"
def Mn.s : Mn → Str
  | .nought => "nought" | .up => "up" | .down => "down" | .even => "even" | .away => "away"
def Mn.by : Mn → Bool → Hw
  | .up, false => .more | .up, true => .nought | .down, false => .nought | .down, true => .more | .even, _ => .even | .away, _ => .away | .nought, _ => .nought
def pw0 (U L : Nat) : Int := (figs U : Int) - (figs L : Int) - 8
def pwN (U L : Nat) : Int := if L * 10 ^ (pw0 U L).toNat * 10 ^ 8 ≤ U * 10 ^ (-(pw0 U L)).toNat then pw0 U L + 1 else pw0 U L
/-! the parts -/
end LW
namespace LW
open PySem PySem.Spec PyProof.Rows L2 DN
/-! ### rounding over the fractions -/
def T (p : Int) : Rat := (10 : Rat) ^ p
def vl (s : Int × Int) : Rat := (s.1 : Rat) * T s.2
/-- a fraction rounded to a whole number -/
def tkR (h : Hw) (x : Rat) : Int := if x = (x.floor : Rat) then x.floor else match h with
  | .nought => x.floor
  | .more => x.floor + 1
  | .even => if 2 * (x - x.floor) = 1 then x.floor + (if x.floor % 2 = 1 then 1 else 0) else x.floor + (if 1 < 2 * (x - x.floor) then 1 else 0)
  | .away => if 2 * (x - x.floor) = 1 then x.floor + 1 else x.floor + (if 1 < 2 * (x - x.floor) then 1 else 0)
/-! stripped -/
/-! the rounded value -/
def pR (v : Rat) : Int := pwN v.num.natAbs v.den
def rwR (h : Hw) (v : Rat) : Rat := (tkR h (v * T (-(pR v))) : Rat) * T (pR v)
def rd1 (h : Hw) (v : Rat) : Option Rat := if T 41 ≤ rwR h v then none else if rwR h v < T (-40) then some (if h = .more then T (-40) else 0) else some (rwR h v)
/-! ### laws of rounding -/
/-! numbers are kept -/
/-! down and up -/
/-! as functions of the value -/
end LW
namespace LW
open PySem PySem.Spec PyProof.Rows L2 DN
/-! ### a sign sought in a text -/
end LW
namespace LW
open PySem PySem.Spec PyProof.Rows L2 DN
open TL (numL numL_lt numL_step numL_digits numL_ne tl_num)
open NumText (AllDigits digitsVal)
local macro_rules | `(tactic| walk_at "ev") => `(tactic| simp -implicitDefEqProofs (disch := first | omega | (simp only [List.length_cons, List.length_nil]; omega)) only [mkTR_ok, mkLR_ok, ix_tm, ix_lm, ix_t0, ix_t1, ix_t2, ix_t3, ix_t4, ix_t5, ix_t6, ix_t7, ix_l0, ix_l1, ix_l2, ix_l3, ix_l4, ix_l5, ix_l6, ix_l7, bin_def, una_def, cal_def, acons_def, anil_def, con_def, callD_def, tst_def, sseq_def, sret_def, sasg_def, sif_def, sskip_def, sraise_def, andQ_def, orQ_def, notQ_def, andE_def, orE_def, notE_def, mkT_def, mkL_def, slc_def, psm_def, pno_def, sfor_def, chn_def, var_zero, var_succ, app2_ok, app1_ok, appL_ok, consR_ok, ofO_some, call0, call1, call2, call3, call4, call5, tstR_ok, seqR_nx, seqR_rt, seqR_ex, retR_ok, retR_ex, asgR_n, asgR_ex, asgR_2, asgR_2L, asgR_3, ifR_t, ifR_f, finR_rt, finR_nx, finR_ex, andR_t, andR_f, orR_t, orR_f, notR_ok, andER_t, andER_f, orER_t, orER_f, notER_ok, psmR_ok, slcR_ok, forR_ok, chn_le, chn_lt, add_ii, sub_ii, neg_i, lt_ii, le_ii, gt_ii, ge_ii, eq_ii, ne_ii, eq_ss, ne_ss, eq_bb, ne_bb, mul_l, mul_r, div_s, mod_p, len_t, len_l, len_a, abs_i, max_ii, min_ii, int_i, int_b, int_t, int_f, List.set_cons_zero, List.set_cons_succ, Bool.not_true, Bool.not_false, decide_true, decide_false, sown_def, ownRR_ok, frz_lst, frz_z, frz_u, frz_succ, sfrz_def, bor_def, borQ_def, flat_i, flat_s, flat_b, flat_n, own_zero, own_succ, sapp_def, sput_def, ixO_def])
local macro_rules | `(tactic| simp?! [$ls,*]) => `(tactic| simp -implicitDefEqProofs (disch := first | omega | (simp only [List.length_cons, List.length_nil]; omega)) only [mkTR_ok, mkLR_ok, ix_tm, ix_lm, ix_t0, ix_t1, ix_t2, ix_t3, ix_t4, ix_t5, ix_t6, ix_t7, ix_l0, ix_l1, ix_l2, ix_l3, ix_l4, ix_l5, ix_l6, ix_l7, bin_def, una_def, cal_def, acons_def, anil_def, con_def, callD_def, tst_def, sseq_def, sret_def, sasg_def, sif_def, sskip_def, sraise_def, andQ_def, orQ_def, notQ_def, andE_def, orE_def, notE_def, mkT_def, mkL_def, slc_def, psm_def, pno_def, sfor_def, chn_def, var_zero, var_succ, app2_ok, app1_ok, appL_ok, consR_ok, ofO_some, call0, call1, call2, call3, call4, call5, tstR_ok, seqR_nx, seqR_rt, seqR_ex, retR_ok, retR_ex, asgR_n, asgR_ex, asgR_2, asgR_2L, asgR_3, ifR_t, ifR_f, finR_rt, finR_nx, finR_ex, andR_t, andR_f, orR_t, orR_f, notR_ok, andER_t, andER_f, orER_t, orER_f, notER_ok, psmR_ok, slcR_ok, forR_ok, chn_le, chn_lt, add_ii, sub_ii, neg_i, lt_ii, le_ii, gt_ii, ge_ii, eq_ii, ne_ii, eq_ss, ne_ss, eq_bb, ne_bb, mul_l, mul_r, div_s, mod_p, len_t, len_l, len_a, abs_i, max_ii, min_ii, int_i, int_b, int_t, int_f, List.set_cons_zero, List.set_cons_succ, Bool.not_true, Bool.not_false, decide_true, decide_false, sown_def, ownRR_ok, frz_lst, frz_z, frz_u, frz_succ, sfrz_def, bor_def, borQ_def, flat_i, flat_s, flat_b, flat_n, own_zero, own_succ, sapp_def, sput_def, ixO_def, $ls,*])
def N__law_cell_at : List Str := ["script", "k"]
def t1__law_cell_at : Rho → SR :=
  (sret (con (.int 0)))
def g__law_cell_at : Rho → SR :=
  sseq (sif (tst (bop ltD (var 1) (cal lenD (acons (var 0) anil)))) (sret (bop ixD (var 0) (var 1))) sskip) (t1__law_cell_at)
def d__law_cell_at (ds : List D) : Res D := runB 2 g__law_cell_at ds
theorem v__law_cell_at {a0 a1 : D} : d__law_cell_at [a0, a1] = finR (g__law_cell_at [.z a0, .z a1]) := runB_eq rfl
def N__law_mixed : List Str := ["script", "k", "drawn"]
def t1__law_mixed : Rho → SR :=
  (sret (bop modD (bop addD (bop addD (bop mulD (var 2) (var 2)) (bop mulD (con (.int 7)) (var 2))) (var 1)) (con (.int 2147483629))))
def g__law_mixed : Rho → SR :=
  sseq (sasg (bop modD (bop mulD (bop addD (bop addD (callD 2 d__law_cell_at (acons (var 0) (acons (var 1) anil))) (bop mulD (con (.int 7919)) (var 1))) (con (.int 1))) (con (.int 48271))) (con (.int 2147483647))) (gn 2)) (t1__law_mixed)
def d__law_mixed (ds : List D) : Res D := runB 3 g__law_mixed ds
theorem v__law_mixed {a0 a1 : D} : d__law_mixed [a0, a1] = finR (g__law_mixed [.z a0, .z a1, .u]) := runB_eq rfl
def N__law_drawn : List Str := ["number", "k", "drawn"]
def t1__law_drawn : Rho → SR :=
  (sret (bop modD (bop addD (bop addD (bop mulD (var 2) (var 2)) (bop mulD (con (.int 3)) (var 2))) (var 1)) (con (.int 2147483629))))
def g__law_drawn : Rho → SR :=
  sseq (sasg (bop modD (bop mulD (bop addD (bop addD (var 0) (bop mulD (con (.int 104729)) (var 1))) (con (.int 17))) (con (.int 69621))) (con (.int 2147483647))) (gn 2)) (t1__law_drawn)
def d__law_drawn (ds : List D) : Res D := runB 3 g__law_drawn ds
theorem v__law_drawn {a0 a1 : D} : d__law_drawn [a0, a1] = finR (g__law_drawn [.z a0, .z a1, .u]) := runB_eq rfl
def N_is_from : List Str := ["thing", "most"]
def g_is_from : Rho → SR :=
  (sret (andE (cal isiD (acons (var 0) (acons (con (.ty "int")) anil))) (andE (notE (cal isiD (acons (var 0) (acons (con (.ty "bool")) anil)))) (chn leD leD (con (.int 0)) (var 0) (var 1)))))
def d_is_from (ds : List D) : Res D := runB 2 g_is_from ds
theorem v_is_from {a0 a1 : D} : d_is_from [a0, a1] = finR (g_is_from [.z a0, .z a1]) := runB_eq rfl
def N_is_formula_to : List Str := ["thing", "deep", "part"]
def e1_is_formula_to (rec : List D → Res D) : Rho → Res D :=
  (callD 2 rec (acons (var 2) (acons (bop subD (var 1) (con (.int 1))) anil)))
def t5_is_formula_to (rec : List D → Res D) : Rho → SR :=
  (sret (cal allD (acons (lcD (its (slc (var 0) (psm (con (.int 1))) pno)) 2 yes (e1_is_formula_to rec)) anil)))
def t4_is_formula_to (rec : List D → Res D) : Rho → SR :=
  sseq (sif (orQ (tst (niT ["plus", "minus", "times"] (bop ixD (var 0) (con (.int 0))))) (tst (bop neD (cal lenD (acons (var 0) anil)) (con (.int 3))))) (sret (con (.bl false))) sskip) (t5_is_formula_to rec)
def t3_is_formula_to (rec : List D → Res D) : Rho → SR :=
  sseq (sif (tst (bop eqD (bop ixD (var 0) (con (.int 0))) (con (.str "sign")))) (sret (andE (bop eqD (cal lenD (acons (var 0) anil)) (con (.int 2))) (callD 2 rec (acons (bop ixD (var 0) (con (.int 1))) (acons (bop subD (var 1) (con (.int 1))) anil))))) sskip) (t4_is_formula_to rec)
def t2_is_formula_to (rec : List D → Res D) : Rho → SR :=
  sseq (sif (tst (bop eqD (bop ixD (var 0) (con (.int 0))) (con (.str "number")))) (sret (andE (bop eqD (cal lenD (acons (var 0) anil)) (con (.int 2))) (callD 2 d_is_from (acons (bop ixD (var 0) (con (.int 1))) (acons (con (.int 9)) anil))))) sskip) (t3_is_formula_to rec)
def t1_is_formula_to (rec : List D → Res D) : Rho → SR :=
  sseq (sif (tst (bop eqD (bop ixD (var 0) (con (.int 0))) (con (.str "name")))) (sret (andE (bop eqD (cal lenD (acons (var 0) anil)) (con (.int 2))) (callD 2 d_is_from (acons (bop ixD (var 0) (con (.int 1))) (acons (bop subD (cal lenD (acons (con (.str "abc")) anil)) (con (.int 1))) anil))))) sskip) (t2_is_formula_to rec)
def g_is_formula_to (rec : List D → Res D) : Rho → SR :=
  sseq (sif (orQ (tst (bop eqD (var 1) (con (.int 0)))) (orQ (notQ (tst (cal isiD (acons (var 0) (acons (con (.ty "tuple")) anil))))) (orQ (tst (bop ltD (cal lenD (acons (var 0) anil)) (con (.int 2)))) (notQ (tst (cal isiD (acons (bop ixD (var 0) (con (.int 0))) (acons (con (.ty "str")) anil)))))))) (sret (con (.bl false))) sskip) (t1_is_formula_to rec)
def d_is_formula_to : Nat → List D → Res D
  | 0 => fun _ => .bad
  | n + 1 => runB 3 (g_is_formula_to (d_is_formula_to n))
theorem v_is_formula_to {a0 a1 : D} {n : Nat} : d_is_formula_to (n + 1) [a0, a1] = finR (g_is_formula_to (d_is_formula_to n) [.z a0, .z a1, .u]) := runB_eq rfl
def N_is_formula : List Str := ["thing"]
def g_is_formula : Rho → SR :=
  (sret (callD 2 (d_is_formula_to 12) (acons (var 0) (acons (con (.int 8)) anil))))
def d_is_formula (ds : List D) : Res D := runB 1 g_is_formula ds
theorem v_is_formula {a0 : D} : d_is_formula [a0] = finR (g_is_formula [.z a0]) := runB_eq rfl
def N_value : List Str := ["formula", "boxes", "one", "other"]
def t7_value (rec : List D → Res D) : Rho → SR :=
  (sret (bop mulD (var 2) (var 3)))
def t6_value (rec : List D → Res D) : Rho → SR :=
  sseq (sif (tst (bop eqD (bop ixD (var 0) (con (.int 0))) (con (.str "minus")))) (sret (bop subD (var 2) (var 3))) sskip) (t7_value rec)
def t5_value (rec : List D → Res D) : Rho → SR :=
  sseq (sif (tst (bop eqD (bop ixD (var 0) (con (.int 0))) (con (.str "plus")))) (sret (bop addD (var 2) (var 3))) sskip) (t6_value rec)
def t4_value (rec : List D → Res D) : Rho → SR :=
  sseq (sasg (callD 2 rec (acons (bop ixD (var 0) (con (.int 2))) (acons (var 1) anil))) (gn 3)) (t5_value rec)
def t3_value (rec : List D → Res D) : Rho → SR :=
  sseq (sif (tst (bop eqD (bop ixD (var 0) (con (.int 0))) (con (.str "sign")))) (sret (una negD (var 2))) sskip) (t4_value rec)
def t2_value (rec : List D → Res D) : Rho → SR :=
  sseq (sasg (callD 2 rec (acons (bop ixD (var 0) (con (.int 1))) (acons (var 1) anil))) (gn 2)) (t3_value rec)
def t1_value (rec : List D → Res D) : Rho → SR :=
  sseq (sif (tst (bop eqD (bop ixD (var 0) (con (.int 0))) (con (.str "number")))) (sret (bop ixD (var 0) (con (.int 1)))) sskip) (t2_value rec)
def g_value (rec : List D → Res D) : Rho → SR :=
  sseq (sif (tst (bop eqD (bop ixD (var 0) (con (.int 0))) (con (.str "name")))) (sret (bop ixD (var 1) (bop ixD (var 0) (con (.int 1))))) sskip) (t1_value rec)
def d_value : Nat → List D → Res D
  | 0 => fun _ => .bad
  | n + 1 => runB 4 (g_value (d_value n))
theorem v_value {a0 a1 : D} {n : Nat} : d_value (n + 1) [a0, a1] = finR (g_value (d_value n) [.z a0, .z a1, .u, .u]) := runB_eq rfl
def N__law_formula : List Str := ["number", "deep", "one", "other"]
def t4__law_formula (rec : List D → Res D) : Rho → SR :=
  (sret (mkT (acons (bop ixD (mkT (acons (con (.str "plus")) (acons (con (.str "minus")) (acons (con (.str "times")) anil)))) (bop modD (bop divD (var 0) (con (.int 8))) (con (.int 3)))) (acons (var 2) (acons (var 3) anil)))))
def t3__law_formula (rec : List D → Res D) : Rho → SR :=
  sseq (sasg (callD 2 rec (acons (bop divD (callD 2 d__law_drawn (acons (var 0) (acons (con (.int 2)) anil))) (con (.int 4))) (acons (bop subD (bop subD (var 1) (con (.int 1))) (bop mulD (bop modD (bop divD (var 0) (con (.int 16))) (con (.int 2))) (cal intD (acons (bop gtD (var 1) (con (.int 2))) anil)))) anil))) (gn 3)) (t4__law_formula rec)
def t2__law_formula (rec : List D → Res D) : Rho → SR :=
  sseq (sif (tst (bop eqD (bop modD (var 0) (con (.int 7))) (con (.int 1)))) (sret (mkT (acons (con (.str "sign")) (acons (var 2) anil)))) sskip) (t3__law_formula rec)
def t1__law_formula (rec : List D → Res D) : Rho → SR :=
  sseq (sasg (callD 2 rec (acons (bop divD (callD 2 d__law_drawn (acons (var 0) (acons (con (.int 1)) anil))) (con (.int 4))) (acons (bop subD (var 1) (con (.int 1))) anil))) (gn 2)) (t2__law_formula rec)
def g__law_formula (rec : List D → Res D) : Rho → SR :=
  sseq (sif (orQ (tst (bop eqD (var 1) (con (.int 1)))) (tst (bop eqD (bop modD (var 0) (con (.int 7))) (con (.int 0))))) (sret (bop ixD (mkL (acons (mkT (acons (con (.str "name")) (acons (bop modD (bop divD (var 0) (con (.int 7))) (con (.int 3))) anil))) (acons (mkT (acons (con (.str "number")) (acons (bop modD (bop divD (var 0) (con (.int 7))) (con (.int 10))) anil))) anil))) (bop modD (bop divD (var 0) (con (.int 64))) (con (.int 2))))) sskip) (t1__law_formula rec)
def d__law_formula : Nat → List D → Res D
  | 0 => fun _ => .bad
  | n + 1 => runB 4 (g__law_formula (d__law_formula n))
theorem v__law_formula {a0 a1 : D} {n : Nat} : d__law_formula (n + 1) [a0, a1] = finR (g__law_formula (d__law_formula n) [.z a0, .z a1, .u, .u]) := runB_eq rfl
def N__law_value : List Str := ["formula", "boxes", "some", "part"]
def e1__law_value (rec : List D → Res D) : Rho → Res D :=
  (callD 2 rec (acons (var 3) (acons (var 1) anil)))
def t4__law_value (rec : List D → Res D) : Rho → SR :=
  (sret (dixD ["plus", "minus", "times"] (acons (bop addD (bop ixD (var 2) (con (.int 0))) (bop ixD (var 2) (con (.int 1)))) (acons (bop subD (bop ixD (var 2) (con (.int 0))) (bop ixD (var 2) (con (.int 1)))) (acons (bop mulD (bop ixD (var 2) (con (.int 0))) (bop ixD (var 2) (con (.int 1)))) anil))) (bop ixD (var 0) (con (.int 0)))))
def t3__law_value (rec : List D → Res D) : Rho → SR :=
  sseq (sif (tst (bop eqD (bop ixD (var 0) (con (.int 0))) (con (.str "sign")))) (sret (una negD (bop ixD (var 2) (con (.int 0))))) sskip) (t4__law_value rec)
def t2__law_value (rec : List D → Res D) : Rho → SR :=
  sseq (sasg (lcD (its (slc (var 0) (psm (con (.int 1))) pno)) 3 yes (e1__law_value rec)) (gn 2)) (t3__law_value rec)
def t1__law_value (rec : List D → Res D) : Rho → SR :=
  sseq (sif (tst (bop eqD (bop ixD (var 0) (con (.int 0))) (con (.str "number")))) (sret (bop ixD (var 0) (con (.int 1)))) sskip) (t2__law_value rec)
def g__law_value (rec : List D → Res D) : Rho → SR :=
  sseq (sif (tst (bop eqD (bop ixD (var 0) (con (.int 0))) (con (.str "name")))) (sret (bop ixD (var 1) (bop ixD (var 0) (con (.int 1))))) sskip) (t1__law_value rec)
def d__law_value : Nat → List D → Res D
  | 0 => fun _ => .bad
  | n + 1 => runB 4 (g__law_value (d__law_value n))
theorem v__law_value {a0 a1 : D} {n : Nat} : d__law_value (n + 1) [a0, a1] = finR (g__law_value (d__law_value n) [.z a0, .z a1, .u, .u]) := runB_eq rfl
def N__law_is : List Str := ["thing", "deep", "most", "entire", "many", "part"]
def e1__law_is (rec : List D → Res D) : Rho → Res D :=
  (var 5)
def t3__law_is (rec : List D → Res D) : Rho → SR :=
  (sret (andE (bop eqD (cal lenD (acons (var 0) anil)) (var 4)) (bop eqD (lcD (its (slc (var 0) (psm (con (.int 1))) pno)) 5 (notQ (tst (callD 2 rec (acons (var 5) (acons (bop subD (var 1) (con (.int 1))) anil))))) (e1__law_is rec)) (mkL anil))))
def t2__law_is (rec : List D → Res D) : Rho → SR :=
  sseq (sasg (dgetD ["sign", "plus", "minus", "times"] (acons (con (.int 2)) (acons (con (.int 3)) (acons (con (.int 3)) (acons (con (.int 3)) anil)))) (bop ixD (var 0) (con (.int 0))) (con (.int 0))) (gn 4)) (t3__law_is rec)
def t1__law_is (rec : List D → Res D) : Rho → SR :=
  sseq (sif (tst (bop inD (bop ixD (var 0) (con (.int 0))) (mkT (acons (con (.str "name")) (acons (con (.str "number")) anil))))) (sseq (sasg (bop ixD (mkL (acons (con (.int 2)) (acons (con (.int 9)) anil))) (cal intD (acons (bop eqD (bop ixD (var 0) (con (.int 0))) (con (.str "number"))) anil))) (gn 2))
    (sseq (sasg (andE (cal isiD (acons (bop ixD (var 0) (con (.int 1))) (acons (con (.ty "int")) anil))) (notE (cal isiD (acons (bop ixD (var 0) (con (.int 1))) (acons (con (.ty "bool")) anil))))) (gn 3))
    (sret (andE (bop eqD (cal lenD (acons (var 0) anil)) (con (.int 2))) (andE (var 3) (chn leD leD (con (.int 0)) (bop ixD (var 0) (con (.int 1))) (var 2))))))) sskip) (t2__law_is rec)
def g__law_is (rec : List D → Res D) : Rho → SR :=
  sseq (sif (orQ (tst (bop eqD (var 1) (con (.int 0)))) (orQ (notQ (tst (cal isiD (acons (var 0) (acons (con (.ty "tuple")) anil))))) (orQ (tst (bop ltD (cal lenD (acons (var 0) anil)) (con (.int 2)))) (notQ (tst (cal isiD (acons (bop ixD (var 0) (con (.int 0))) (acons (con (.ty "str")) anil)))))))) (sret (con (.bl false))) sskip) (t1__law_is rec)
def d__law_is : Nat → List D → Res D
  | 0 => fun _ => .bad
  | n + 1 => runB 6 (g__law_is (d__law_is n))
theorem v__law_is {a0 a1 : D} {n : Nat} : d__law_is (n + 1) [a0, a1] = finR (g__law_is (d__law_is n) [.z a0, .z a1, .u, .u, .u, .u]) := runB_eq rfl
def N__law_places_in : List Str := ["bent_one", "bent_way", "bent_ways", "bent_at", "bent_part"]
def b1__law_places_in (rec : List D → Res D) : Rho → SR :=
  (sasg (bop addD (var 2) (callD 2 rec (acons (var 4) (acons (bop addD (var 1) (mkT (acons (var 3) anil))) anil)))) (gn 2))
def t2__law_places_in (rec : List D → Res D) : Rho → SR :=
  (sret (var 2))
def t1__law_places_in (rec : List D → Res D) : Rho → SR :=
  sseq (sif (tst (cal isiD (acons (var 0) (acons (con (.ty "tuple")) anil)))) (sfor (enumI (acons (var 0) anil)) (gt 2 (gsc (gn 3) (gsc (gn 4) gsn))) (b1__law_places_in rec)) sskip) (t2__law_places_in rec)
def g__law_places_in (rec : List D → Res D) : Rho → SR :=
  sseq (sasg (mkL (acons (var 1) anil)) (gn 2)) (t1__law_places_in rec)
def d__law_places_in : Nat → List D → Res D
  | 0 => fun _ => .bad
  | n + 1 => runB 5 (g__law_places_in (d__law_places_in n))
theorem v__law_places_in {a0 a1 : D} {n : Nat} : d__law_places_in (n + 1) [a0, a1] = finR (g__law_places_in (d__law_places_in n) [.z a0, .z a1, .u, .u, .u]) := runB_eq rfl
def N__law_otherwise : List Str := ["bent_one", "bent_number", "bent_some"]
def t3__law_otherwise : Rho → SR :=
  (sret (bop ixD (mkL (acons (con .non) (acons (mkT (acons (var 0) anil)) (acons (mkL (acons (var 0) anil)) (acons (con (.str "")) (acons (con (.int 0)) anil)))))) (bop modD (var 1) (con (.int 5)))))
def t2__law_otherwise : Rho → SR :=
  sseq (sif (tst (cal isiD (acons (var 0) (acons (con (.ty "int")) anil)))) (sseq (sasg (mkL (acons (con (.bl true)) (acons (con .non) (acons (cal strD (acons (var 0) anil)) (acons (mkT (acons (var 0) anil)) anil))))) (gn 2))
    (sret (bop ixD (bop addD (var 2) (mkL (acons (bop subD (una negD (con (.int 1))) (var 0)) anil))) (bop modD (var 1) (con (.int 5)))))) sskip) (t3__law_otherwise)
def t1__law_otherwise : Rho → SR :=
  sseq (sif (tst (cal isiD (acons (var 0) (acons (con (.ty "bool")) anil)))) (sret (bop ixD (mkL (acons (cal intD (acons (var 0) anil)) (acons (con .non) (acons (cal strD (acons (var 0) anil)) anil)))) (bop modD (var 1) (con (.int 3))))) sskip) (t2__law_otherwise)
def g__law_otherwise : Rho → SR :=
  sseq (sif (tst (cal isiD (acons (var 0) (acons (con (.ty "tuple")) anil)))) (sseq (sasg (mkL (acons (cal listD (acons (var 0) anil)) (acons (cal listD (acons (var 0) anil)) (acons (bop addD (var 0) (slc (var 0) pno (psm (con (.int 1))))) anil)))) (gn 2))
    (sret (bop ixD (bop addD (var 2) (mkL (acons (slc (var 0) (psm (con (.int 1))) pno) (acons (mkL (acons (var 0) anil)) anil)))) (bop modD (var 1) (con (.int 5)))))) sskip) (t1__law_otherwise)
def d__law_otherwise (ds : List D) : Res D := runB 3 g__law_otherwise ds
theorem v__law_otherwise {a0 a1 : D} : d__law_otherwise [a0, a1] = finR (g__law_otherwise [.z a0, .z a1, .u]) := runB_eq rfl
def N__law_put_at : List Str := ["bent_one", "bent_way", "bent_by", "bent_at", "bent_part"]
def g__law_put_at (lf : Addr) (lL : D → Res D) (rec : List D → Res D) : Rho → SR :=
  sseq (sif (tst (bop eqD (var 1) (mkT anil))) (sret (callA lf lL 2 (var 0))) sskip)
    (sseq (sasg (bop ixD (var 1) (con (.int 0))) (gn 3))
    (sseq (sasg (callD 3 rec (acons (bop ixD (var 0) (var 3)) (acons (slc (var 1) (psm (con (.int 1))) pno) (acons (var 2) anil)))) (gn 4))
    ((sret (bop addD (bop addD (slc (var 0) pno (psm (var 3))) (mkT (acons (var 4) anil))) (slc (var 0) (psm (bop addD (var 3) (con (.int 1)))) pno))))))
def d__law_put_at (lf : Addr) (lL : D → Res D) : Nat → List D → Res D
  | 0 => fun _ => .bad
  | n + 1 => runB 5 (g__law_put_at lf lL (d__law_put_at lf lL n))
theorem v__law_put_at {a0 a1 a2 : D} {lf : Addr} {lL : D → Res D} {n : Nat} : d__law_put_at lf lL (n + 1) [a0, a1, a2] = finR (g__law_put_at lf lL (d__law_put_at lf lL n) [.z a0, .z a1, .z a2, .u, .u]) := runB_eq rfl
def N__law_spoilt_v2 : List Str := ["thing", "number", "deep", "bent_ways", "bent_way"]
def fl__law_spoilt_v2 : Rho → Res D := (callD 2 d__law_otherwise (acons (var 0) (acons (bop divD (var 1) (con (.int 4096))) anil)))
def t2__law_spoilt_v2 : Rho → SR :=
  (sret (lam3 (fun L a b => d__law_put_at 0 L 12 [a, b, .adr 0]) fl__law_spoilt_v2 1 (var 0) (var 4)))
def t1__law_spoilt_v2 : Rho → SR :=
  sseq (sasg (bop ixD (var 3) (bop modD (var 1) (cal lenD (acons (var 3) anil)))) (gn 4)) (t2__law_spoilt_v2)
def g__law_spoilt_v2 : Rho → SR :=
  sseq (sasg (callD 2 (d__law_places_in 12) (acons (var 0) (acons (mkT anil) anil))) (gn 3)) (t1__law_spoilt_v2)
def d__law_spoilt_v2 (ds : List D) : Res D := runB 5 g__law_spoilt_v2 ds
theorem v__law_spoilt_v2 {a0 a1 a2 : D} : d__law_spoilt_v2 [a0, a1, a2] = finR (g__law_spoilt_v2 [.z a0, .z a1, .z a2, .u, .u]) := runB_eq rfl
def N__law_once : List Str := ["script", "number", "thing", "k", "found", "boxes"]
def b1__law_once : Rho → SR :=
  (sasg (bop ixD (mkL (acons (mkT (acons (con (.str "sign")) (acons (var 2) anil))) (acons (mkT (acons (con (.str "times")) (acons (mkT (acons (con (.str "name")) (acons (con (.int 1)) anil))) (acons (var 2) anil)))) anil))) (bop modD (bop divD (var 1) (con (.int 32))) (con (.int 2)))) (gn 2))
def e2__law_once : Rho → Res D :=
  (bop subD (bop modD (callD 2 d__law_mixed (acons (var 0) (acons (bop addD (con (.int 3)) (var 3)) anil))) (con (.int 2001))) (con (.int 1000)))
def t7__law_once : Rho → SR :=
  (sret (orE (notE (var 4)) (bop eqD (callD 2 (d_value 12) (acons (var 2) (acons (var 5) anil))) (callD 2 (d__law_value 12) (acons (var 2) (acons (var 5) anil))))))
def t6__law_once : Rho → SR :=
  sseq (sasg (cal tupD (acons (lcD (rng1 (acons (con (.int 3)) anil)) 3 yes e2__law_once) anil)) (gn 5)) (t7__law_once)
def t5__law_once : Rho → SR :=
  sseq (sif (orQ (notQ (tst (cal isiD (acons (var 4) (acons (con (.ty "bool")) anil))))) (tst (bop neD (var 4) (callD 2 (d__law_is 12) (acons (var 2) (acons (con (.int 8)) anil)))))) (sret (con (.bl false))) sskip) (t6__law_once)
def t4__law_once : Rho → SR :=
  sseq (sasg (callD 1 d_is_formula (acons (var 2) anil)) (gn 4)) (t5__law_once)
def t3__law_once : Rho → SR :=
  sseq (sif (tst (bop eqD (bop modD (bop divD (var 1) (con (.int 64))) (con (.int 2))) (con (.int 1)))) (sasg (callD 3 d__law_spoilt_v2 (acons (var 2) (acons (callD 2 d__law_mixed (acons (var 0) (acons (con (.int 2)) anil))) (acons (bop modD (bop divD (var 1) (con (.int 128))) (con (.int 6))) anil)))) (gn 2)) sskip) (t4__law_once)
def t2__law_once : Rho → SR :=
  sseq (sfor (rng1 (acons (bop modD (bop divD (var 1) (con (.int 8))) (con (.int 4))) anil)) (gn 3) b1__law_once) (t3__law_once)
def t1__law_once : Rho → SR :=
  sseq (sasg (callD 2 (d__law_formula 12) (acons (callD 2 d__law_mixed (acons (var 0) (acons (con (.int 1)) anil))) (acons (bop addD (con (.int 1)) (bop modD (var 1) (con (.int 7)))) anil))) (gn 2)) (t2__law_once)
def g__law_once : Rho → SR :=
  sseq (sasg (callD 2 d__law_mixed (acons (var 0) (acons (con (.int 0)) anil))) (gn 1)) (t1__law_once)
def d__law_once (ds : List D) : Res D := runB 6 g__law_once ds
theorem v__law_once {a0 : D} : d__law_once [a0] = finR (g__law_once [.z a0, .u, .u, .u, .u, .u]) := runB_eq rfl
def topS (i : Nat) : Stmt := PySem.Challenge.pw_pocketpile_k59_lists_anywhere_in_formula.main.body.getD i (.Pass ⟨0, 0, 0, 0⟩)
abbrev s_is_from : Stmt := topS 4
abbrev s_is_formula_to : Stmt := topS 5
abbrev s_is_formula : Stmt := topS 6
abbrev s_value : Stmt := topS 7
abbrev s__law_cell_at : Stmt := topS 9
abbrev s__law_mixed : Stmt := topS 10
abbrev s__law_drawn : Stmt := topS 11
abbrev s__law_formula : Stmt := topS 12
abbrev s__law_value : Stmt := topS 13
abbrev s__law_is : Stmt := topS 14
abbrev s__law_places_in : Stmt := topS 15
abbrev s__law_otherwise : Stmt := topS 17
abbrev s__law_put_at : Stmt := topS 16
abbrev s__law_spoilt : Stmt := topS 18
abbrev s__law_once : Stmt := topS 19
abbrev s_law : Stmt := topS 20
def tfs : List He.Defn := [("_law_spoilt", none)]
def tabT (K : PySem.W.Frag) : List (Addr × Str) := [((He.cT K ("_law_spoilt", none)).2, ("_law_spoilt" : Str) ++ ".<locals>." ++ "<lambda>")]
def lamP : Arguments := match defBody s__law_spoilt with
  | [_, _, .Return (some (.Call _ [_, _, .Lambda a b c _] _ _)) _] => a
  | _ => default
def lamE : Expr := match defBody s__law_spoilt with
  | [_, _, .Return (some (.Call _ [_, _, .Lambda a b c _] _ _)) _] => b
  | _ => default
def lamS : Scope := match defBody s__law_spoilt with
  | [_, _, .Return (some (.Call _ [_, _, .Lambda a b c _] _ _)) _] => c
  | _ => default
def lamQ : Str := ("_law_spoilt" : Str) ++ ".<locals>." ++ "<lambda>"
theorem lamSc : NdefX.NScope ["bent_part", "number"] ["bent_part"] ["number"] lamS := NdefX.nscope_by (by decide +kernel)
theorem lamNd : NdefX.ndefB (defScope s__law_spoilt) lamS ["number"] = true := by decide +kernel
structure Top (w : World) (K : PySem.W.Frag) (mg : Str → Option Value) : Prop where
  f_is_from : ∃ fd, FunD K "is_from" "is_from" (defArgs s_is_from) (defBody s_is_from) (defScope s_is_from) [] [] (He.ga K "is_from") fd
  m_is_from : mg "is_from" = some (.ref (He.ga K "is_from"))
  f_is_formula_to : ∃ fd, FunD K "is_formula_to" "is_formula_to" (defArgs s_is_formula_to) (defBody s_is_formula_to) (defScope s_is_formula_to) [] [] (He.ga K "is_formula_to") fd
  m_is_formula_to : mg "is_formula_to" = some (.ref (He.ga K "is_formula_to"))
  f_is_formula : ∃ fd, FunD K "is_formula" "is_formula" (defArgs s_is_formula) (defBody s_is_formula) (defScope s_is_formula) [] [] (He.ga K "is_formula") fd
  m_is_formula : mg "is_formula" = some (.ref (He.ga K "is_formula"))
  f_value : ∃ fd, FunD K "value" "value" (defArgs s_value) (defBody s_value) (defScope s_value) [] [] (He.ga K "value") fd
  m_value : mg "value" = some (.ref (He.ga K "value"))
  f__law_cell_at : ∃ fd, FunD K "_law_cell_at" "_law_cell_at" (defArgs s__law_cell_at) (defBody s__law_cell_at) (defScope s__law_cell_at) [] [] (He.ga K "_law_cell_at") fd
  m__law_cell_at : mg "_law_cell_at" = some (.ref (He.ga K "_law_cell_at"))
  f__law_mixed : ∃ fd, FunD K "_law_mixed" "_law_mixed" (defArgs s__law_mixed) (defBody s__law_mixed) (defScope s__law_mixed) [] [] (He.ga K "_law_mixed") fd
  m__law_mixed : mg "_law_mixed" = some (.ref (He.ga K "_law_mixed"))
  f__law_drawn : ∃ fd, FunD K "_law_drawn" "_law_drawn" (defArgs s__law_drawn) (defBody s__law_drawn) (defScope s__law_drawn) [] [] (He.ga K "_law_drawn") fd
  m__law_drawn : mg "_law_drawn" = some (.ref (He.ga K "_law_drawn"))
  f__law_formula : ∃ fd, FunD K "_law_formula" "_law_formula" (defArgs s__law_formula) (defBody s__law_formula) (defScope s__law_formula) [] [] (He.ga K "_law_formula") fd
  m__law_formula : mg "_law_formula" = some (.ref (He.ga K "_law_formula"))
  f__law_value : ∃ fd, FunD K "_law_value" "_law_value" (defArgs s__law_value) (defBody s__law_value) (defScope s__law_value) [] [] (He.ga K "_law_value") fd
  m__law_value : mg "_law_value" = some (.ref (He.ga K "_law_value"))
  f__law_is : ∃ fd, FunD K "_law_is" "_law_is" (defArgs s__law_is) (defBody s__law_is) (defScope s__law_is) [] [] (He.ga K "_law_is") fd
  m__law_is : mg "_law_is" = some (.ref (He.ga K "_law_is"))
  f__law_places_in : ∃ fd, FunD K "_law_places_in" "_law_places_in" (defArgs s__law_places_in) (defBody s__law_places_in) (defScope s__law_places_in) [] [] (He.ga K "_law_places_in") fd
  m__law_places_in : mg "_law_places_in" = some (.ref (He.ga K "_law_places_in"))
  f__law_otherwise : ∃ fd, FunD K "_law_otherwise" "_law_otherwise" (defArgs s__law_otherwise) (defBody s__law_otherwise) (defScope s__law_otherwise) [] [] (He.ga K "_law_otherwise") fd
  m__law_otherwise : mg "_law_otherwise" = some (.ref (He.ga K "_law_otherwise"))
  f__law_put_at : ∃ fd, FunD K "_law_put_at" "_law_put_at" (defArgs s__law_put_at) (defBody s__law_put_at) (defScope s__law_put_at) [] [] (He.ga K "_law_put_at") fd
  m__law_put_at : mg "_law_put_at" = some (.ref (He.ga K "_law_put_at"))
  f__law_spoilt : ∃ fd, FunD K "_law_spoilt" "_law_spoilt" (defArgs s__law_spoilt) (defBody s__law_spoilt) (defScope s__law_spoilt) [] [] (He.ga K "_law_spoilt") fd
  m__law_spoilt : mg "_law_spoilt" = some (.ref (He.ga K "_law_spoilt"))
  f__law_once : ∃ fd, FunD K "_law_once" "_law_once" (defArgs s__law_once) (defBody s__law_once) (defScope s__law_once) [] [] (He.ga K "_law_once") fd
  m__law_once : mg "_law_once" = some (.ref (He.ga K "_law_once"))
  f_law : ∃ fd, FunD K "law" "law" (defArgs s_law) (defBody s_law) (defScope s_law) [] [] (He.ga K "law") fd
  m_law : mg "law" = some (.ref (He.ga K "law"))
  b_int : mg "int" = none
  b_isinstance : mg "isinstance" = none
  b_bool : mg "bool" = none
  b_tuple : mg "tuple" = none
  b_len : mg "len" = none
  b_str : mg "str" = none
  b_all : mg "all" = none
  b_enumerate : mg "enumerate" = none
  b_list : mg "list" = none
  b_range : mg "range" = none
  c_DEEPEST : ∃ t, mg "DEEPEST" = some (.int (8) t)
  c_NAMES : ∃ t, mg "NAMES" = some (.str "abc" t)
  d_SIGNS : DicS w K mg "SIGNS" [("plus", " + "), ("minus", " - "), ("times", "*")]
section
variable {P : Program} {w : World} {K : PySem.W.Frag} {mg : Str → Option Value} {base : Heap} {T : List (Addr × Str)}
theorem sc_is_from : FnScope N_is_from ["thing", "most"] (defScope s_is_from) := ⟨rfl, rfl, rfl, by decide +kernel, rfl, by decide +kernel, by decide +kernel⟩
theorem ok_is_from (Z : Top w K mg) : OkD P w K mg base T 1 "is_from" 2 d_is_from := by
  obtain ⟨fd, Fd⟩ := Z.f_is_from
  refine ⟨⟨fd, ["thing", "most"], fn_ok Fd sc_is_from rfl fun cdv A outer s0 H0 E F0 hr => ?_, Fd.bindsN (ps := ["thing", "most"]) (fun _ _ _ _ _ _ us hl => match us, hl with | [_, _], _ => rfl)⟩, Fd.kp, Z.m_is_from⟩
  have tk : Takes (cxOf (L2.CX P w) P w K mg base N_is_from "is_from" (defScope s_is_from) (He.ga K "is_from") cdv A outer s0 H0 E) (WofE E) := takes_of rfl rfl rfl rfl
  have po : PassesOwn (model P w) (cxOf (L2.CX P w) P w K mg base N_is_from "is_from" (defScope s_is_from) (He.ga K "is_from") cdv A outer s0 H0 E).A (cxOf (L2.CX P w) P w K mg base N_is_from "is_from" (defScope s_is_from) (He.ga K "is_from") cdv A outer s0 H0 E).env (cxOf (L2.CX P w) P w K mg base N_is_from "is_from" (defScope s_is_from) (He.ga K "is_from") cdv A outer s0 H0 E).xe := passes_of (X := (cxOf (L2.CX P w) P w K mg base N_is_from "is_from" (defScope s_is_from) (He.ga K "is_from") cdv A outer s0 H0 E)) rfl
  have hu := hr.units
  exact (s_one (s_ret (e_and (e_callB c_isi rfl Z.b_isinstance bt_isinstance (a_cons (e_var (pv 0)) (a_cons (e_ty Z.b_int bt_int rfl) a_nil))) (e_and (e_not (e_callB c_isi rfl Z.b_isinstance bt_isinstance (a_cons (e_var (pv 0)) (a_cons (e_ty Z.b_bool bt_bool rfl) a_nil)))) (e_one (e_chn o_le o_le e_int (e_var (pv 0)) (e_var (pv 1))))))))
theorem sc_is_formula_to : FnScope N_is_formula_to ["thing", "deep"] (defScope s_is_formula_to) := ⟨rfl, rfl, rfl, by decide +kernel, rfl, by decide +kernel, by decide +kernel⟩
theorem ok_is_formula_to (n : Nat) (Z : Top w K mg) : OkD P w K mg base T (n * 1 + 2) "is_formula_to" 2 (d_is_formula_to n) := by
  induction n with
  | zero => exact ok_bad (k := 1) (Z.f_is_formula_to) (Z.m_is_formula_to) sc_is_formula_to rfl (fun fd Fd => Fd.bindsN (ps := ["thing", "deep"]) (fun _ _ _ _ _ _ us hl => match us, hl with | [_, _], _ => rfl))
  | succ n ih0 =>
  have ih : Top w K mg → OkD P w K mg base T (n * 1 + 2) "is_formula_to" 2 (d_is_formula_to n) := fun _ => ih0
  have e : (n + 1) * 1 + 2 = (n * 1 + 0 + 2) + 1 := by omega
  rw [e]
  obtain ⟨fd, Fd⟩ := Z.f_is_formula_to
  refine ⟨⟨fd, ["thing", "deep"], fn_ok Fd sc_is_formula_to rfl fun cdv A outer s0 H0 E F0 hr => ?_, Fd.bindsN (ps := ["thing", "deep"]) (fun _ _ _ _ _ _ us hl => match us, hl with | [_, _], _ => rfl)⟩, Fd.kp, Z.m_is_formula_to⟩
  have tk : Takes (cxOf (L2.CX P w) P w K mg base N_is_formula_to "is_formula_to" (defScope s_is_formula_to) (He.ga K "is_formula_to") cdv A outer s0 H0 E) (WofE E) := takes_of rfl rfl rfl rfl
  have po : PassesOwn (model P w) (cxOf (L2.CX P w) P w K mg base N_is_formula_to "is_formula_to" (defScope s_is_formula_to) (He.ga K "is_formula_to") cdv A outer s0 H0 E).A (cxOf (L2.CX P w) P w K mg base N_is_formula_to "is_formula_to" (defScope s_is_formula_to) (He.ga K "is_formula_to") cdv A outer s0 H0 E).env (cxOf (L2.CX P w) P w K mg base N_is_formula_to "is_formula_to" (defScope s_is_formula_to) (He.ga K "is_formula_to") cdv A outer s0 H0 E).xe := passes_of (X := (cxOf (L2.CX P w) P w K mg base N_is_formula_to "is_formula_to" (defScope s_is_formula_to) (He.ga K "is_formula_to") cdv A outer s0 H0 E)) rfl
  have hu := hr.units
  exact (s_cons (s_if (q_w (w_or (q_cmp (o_eq hu) (e_var (pv 1)) e_int (nomark _)) (w_or (q_not (q_val (e_callB c_isi rfl Z.b_isinstance bt_isinstance (a_cons (e_var (pv 0)) (a_cons (e_ty Z.b_tuple bt_tuple rfl) a_nil))))) (w_or (q_cmp o_lt (e_callB c_len rfl Z.b_len bt_len (a_cons (e_var (pv 0)) a_nil)) e_int (nomark _)) (w_or1 (q_not (q_val (e_callB c_isi rfl Z.b_isinstance bt_isinstance (a_cons (e_ix (e_var (pv 0)) e_int) (a_cons (e_ty Z.b_str bt_str rfl) a_nil)))))))))) (s_one (s_ret e_bl)) s_nil)
    (s_cons (s_if (q_cmp (o_eq hu) (e_ix (e_var (pv 0)) e_int) e_str (nomark _)) (s_one (s_ret (e_and (e_cmp (o_eq hu) (e_callB c_len rfl Z.b_len bt_len (a_cons (e_var (pv 0)) a_nil)) e_int (nomark _)) (e_one (e_call (ok_is_from Z) hr tk rfl (a_cons (e_ix (e_var (pv 0)) e_int) (a_cons (e_bin o_sub (e_callB c_len rfl Z.b_len bt_len (a_cons (e_gstr Z.c_NAMES rfl) a_nil)) e_int) a_nil)) (by omega)))))) s_nil)
    (s_cons (s_if (q_cmp (o_eq hu) (e_ix (e_var (pv 0)) e_int) e_str (nomark _)) (s_one (s_ret (e_and (e_cmp (o_eq hu) (e_callB c_len rfl Z.b_len bt_len (a_cons (e_var (pv 0)) a_nil)) e_int (nomark _)) (e_one (e_call (ok_is_from Z) hr tk rfl (a_cons (e_ix (e_var (pv 0)) e_int) (a_cons e_int a_nil)) (by omega)))))) s_nil)
    (s_cons (s_if (q_cmp (o_eq hu) (e_ix (e_var (pv 0)) e_int) e_str (nomark _)) (s_one (s_ret (e_and (e_cmp (o_eq hu) (e_callB c_len rfl Z.b_len bt_len (a_cons (e_var (pv 0)) a_nil)) e_int (nomark _)) (e_one (e_call (ih Z) hr tk rfl (a_cons (e_ix (e_var (pv 0)) e_int) (a_cons (e_bin o_sub (e_var (pv 1)) e_int) a_nil)) (by omega)))))) s_nil)
    (s_cons (s_if (q_w (w_or (q_niS Z.d_SIGNS rfl (e_ix (e_var (pv 0)) e_int)) (w_or1 (q_cmp (o_ne hu) (e_callB c_len rfl Z.b_len bt_len (a_cons (e_var (pv 0)) a_nil)) e_int (nomark _))))) (s_one (s_ret e_bl)) s_nil)
    (s_one (s_ret (e_callB (c_all rfl) rfl Z.b_all bt_all (a_cons (e_lc (x := "part") (i := 2) rfl sc_is_formula_to.nd (i_any (e_sl (e_var (pv 0)) (p_some e_int) p_none)) (blkOk_by (N := N_is_formula_to) (sc := defScope s_is_formula_to) (by decide +kernel)) (fun _ _ _ _ _ => pg_name (i := 2) sc_is_formula_to.nd rfl (Or.inl rfl)) (fun _ _ _ _ _ => ts_nil) (fun _ _ _ _ _ => (e_call (ih Z) hr L2.takes0 rfl (a_cons (e_var (pv 2)) (a_cons (e_bin o_sub (e_var (pv 1)) e_int) a_nil)) (by omega)))) a_nil)))))))))
theorem sc_is_formula : FnScope N_is_formula ["thing"] (defScope s_is_formula) := ⟨rfl, rfl, rfl, by decide +kernel, rfl, by decide +kernel, by decide +kernel⟩
theorem ok_is_formula (Z : Top w K mg) : OkD P w K mg base T 15 "is_formula" 1 d_is_formula := by
  obtain ⟨fd, Fd⟩ := Z.f_is_formula
  refine ⟨⟨fd, ["thing"], fn_ok Fd sc_is_formula rfl fun cdv A outer s0 H0 E F0 hr => ?_, Fd.bindsN (ps := ["thing"]) (fun _ _ _ _ _ _ us hl => match us, hl with | [_], _ => rfl)⟩, Fd.kp, Z.m_is_formula⟩
  have tk : Takes (cxOf (L2.CX P w) P w K mg base N_is_formula "is_formula" (defScope s_is_formula) (He.ga K "is_formula") cdv A outer s0 H0 E) (WofE E) := takes_of rfl rfl rfl rfl
  have po : PassesOwn (model P w) (cxOf (L2.CX P w) P w K mg base N_is_formula "is_formula" (defScope s_is_formula) (He.ga K "is_formula") cdv A outer s0 H0 E).A (cxOf (L2.CX P w) P w K mg base N_is_formula "is_formula" (defScope s_is_formula) (He.ga K "is_formula") cdv A outer s0 H0 E).env (cxOf (L2.CX P w) P w K mg base N_is_formula "is_formula" (defScope s_is_formula) (He.ga K "is_formula") cdv A outer s0 H0 E).xe := passes_of (X := (cxOf (L2.CX P w) P w K mg base N_is_formula "is_formula" (defScope s_is_formula) (He.ga K "is_formula") cdv A outer s0 H0 E)) rfl
  have hu := hr.units
  exact (s_one (s_ret (e_call (ok_is_formula_to 12 Z) hr tk rfl (a_cons (e_var (pv 0)) (a_cons (e_gint Z.c_DEEPEST rfl) a_nil)))))
theorem sc_value : FnScope N_value ["formula", "boxes"] (defScope s_value) := ⟨rfl, rfl, rfl, by decide +kernel, rfl, by decide +kernel, by decide +kernel⟩
theorem ok_value (n : Nat) (Z : Top w K mg) : OkD P w K mg base T (n * 1 + 1) "value" 2 (d_value n) := by
  induction n with
  | zero => exact ok_bad (k := 0) (Z.f_value) (Z.m_value) sc_value rfl (fun fd Fd => Fd.bindsN (ps := ["formula", "boxes"]) (fun _ _ _ _ _ _ us hl => match us, hl with | [_, _], _ => rfl))
  | succ n ih0 =>
  have ih : Top w K mg → OkD P w K mg base T (n * 1 + 1) "value" 2 (d_value n) := fun _ => ih0
  have e : (n + 1) * 1 + 1 = (n * 1 + 0 + 1) + 1 := by omega
  rw [e]
  obtain ⟨fd, Fd⟩ := Z.f_value
  refine ⟨⟨fd, ["formula", "boxes"], fn_ok Fd sc_value rfl fun cdv A outer s0 H0 E F0 hr => ?_, Fd.bindsN (ps := ["formula", "boxes"]) (fun _ _ _ _ _ _ us hl => match us, hl with | [_, _], _ => rfl)⟩, Fd.kp, Z.m_value⟩
  have tk : Takes (cxOf (L2.CX P w) P w K mg base N_value "value" (defScope s_value) (He.ga K "value") cdv A outer s0 H0 E) (WofE E) := takes_of rfl rfl rfl rfl
  have po : PassesOwn (model P w) (cxOf (L2.CX P w) P w K mg base N_value "value" (defScope s_value) (He.ga K "value") cdv A outer s0 H0 E).A (cxOf (L2.CX P w) P w K mg base N_value "value" (defScope s_value) (He.ga K "value") cdv A outer s0 H0 E).env (cxOf (L2.CX P w) P w K mg base N_value "value" (defScope s_value) (He.ga K "value") cdv A outer s0 H0 E).xe := passes_of (X := (cxOf (L2.CX P w) P w K mg base N_value "value" (defScope s_value) (He.ga K "value") cdv A outer s0 H0 E)) rfl
  have hu := hr.units
  exact (s_cons (s_if (q_cmp (o_eq hu) (e_ix (e_var (pv 0)) e_int) e_str (nomark _)) (s_one (s_ret (e_ix (e_var (pv 1)) (e_ix (e_var (pv 0)) e_int)))) s_nil)
    (s_cons (s_if (q_cmp (o_eq hu) (e_ix (e_var (pv 0)) e_int) e_str (nomark _)) (s_one (s_ret (e_ix (e_var (pv 0)) e_int))) s_nil)
    (s_cons (s_asg (e_call (ih Z) hr tk rfl (a_cons (e_ix (e_var (pv 0)) e_int) (a_cons (e_var (pv 1)) a_nil)) (by omega)) (g_name (pg_name (i := 2) sc_value.nd rfl (Or.inl rfl))))
    (s_cons (s_if (q_cmp (o_eq hu) (e_ix (e_var (pv 0)) e_int) e_str (nomark _)) (s_one (s_ret (e_una u_neg (e_var (pv 2))))) s_nil)
    (s_cons (s_asg (e_call (ih Z) hr tk rfl (a_cons (e_ix (e_var (pv 0)) e_int) (a_cons (e_var (pv 1)) a_nil)) (by omega)) (g_name (pg_name (i := 3) sc_value.nd rfl (Or.inl rfl))))
    (s_cons (s_if (q_cmp (o_eq hu) (e_ix (e_var (pv 0)) e_int) e_str (nomark _)) (s_one (s_ret (e_bin o_add (e_var (pv 2)) (e_var (pv 3))))) s_nil)
    (s_cons (s_if (q_cmp (o_eq hu) (e_ix (e_var (pv 0)) e_int) e_str (nomark _)) (s_one (s_ret (e_bin o_sub (e_var (pv 2)) (e_var (pv 3))))) s_nil)
    (s_one (s_ret (e_bin o_mul (e_var (pv 2)) (e_var (pv 3))))))))))))
theorem sc__law_cell_at : FnScope N__law_cell_at ["script", "k"] (defScope s__law_cell_at) := ⟨rfl, rfl, rfl, by decide +kernel, rfl, by decide +kernel, by decide +kernel⟩
theorem ok__law_cell_at (Z : Top w K mg) : OkD P w K mg base T 1 "_law_cell_at" 2 d__law_cell_at := by
  obtain ⟨fd, Fd⟩ := Z.f__law_cell_at
  refine ⟨⟨fd, ["script", "k"], fn_ok Fd sc__law_cell_at rfl fun cdv A outer s0 H0 E F0 hr => ?_, Fd.bindsN (ps := ["script", "k"]) (fun _ _ _ _ _ _ us hl => match us, hl with | [_, _], _ => rfl)⟩, Fd.kp, Z.m__law_cell_at⟩
  have tk : Takes (cxOf (L2.CX P w) P w K mg base N__law_cell_at "_law_cell_at" (defScope s__law_cell_at) (He.ga K "_law_cell_at") cdv A outer s0 H0 E) (WofE E) := takes_of rfl rfl rfl rfl
  have po : PassesOwn (model P w) (cxOf (L2.CX P w) P w K mg base N__law_cell_at "_law_cell_at" (defScope s__law_cell_at) (He.ga K "_law_cell_at") cdv A outer s0 H0 E).A (cxOf (L2.CX P w) P w K mg base N__law_cell_at "_law_cell_at" (defScope s__law_cell_at) (He.ga K "_law_cell_at") cdv A outer s0 H0 E).env (cxOf (L2.CX P w) P w K mg base N__law_cell_at "_law_cell_at" (defScope s__law_cell_at) (He.ga K "_law_cell_at") cdv A outer s0 H0 E).xe := passes_of (X := (cxOf (L2.CX P w) P w K mg base N__law_cell_at "_law_cell_at" (defScope s__law_cell_at) (He.ga K "_law_cell_at") cdv A outer s0 H0 E)) rfl
  have hu := hr.units
  exact (s_cons (s_if (q_cmp o_lt (e_var (pv 1)) (e_callB c_len rfl Z.b_len bt_len (a_cons (e_var (pv 0)) a_nil)) (nomark _)) (s_one (s_ret (e_ix (e_var (pv 0)) (e_var (pv 1))))) s_nil)
    (s_one (s_ret e_int)))
theorem sc__law_mixed : FnScope N__law_mixed ["script", "k"] (defScope s__law_mixed) := ⟨rfl, rfl, rfl, by decide +kernel, rfl, by decide +kernel, by decide +kernel⟩
theorem ok__law_mixed (Z : Top w K mg) : OkD P w K mg base T 2 "_law_mixed" 2 d__law_mixed := by
  obtain ⟨fd, Fd⟩ := Z.f__law_mixed
  refine ⟨⟨fd, ["script", "k"], fn_ok Fd sc__law_mixed rfl fun cdv A outer s0 H0 E F0 hr => ?_, Fd.bindsN (ps := ["script", "k"]) (fun _ _ _ _ _ _ us hl => match us, hl with | [_, _], _ => rfl)⟩, Fd.kp, Z.m__law_mixed⟩
  have tk : Takes (cxOf (L2.CX P w) P w K mg base N__law_mixed "_law_mixed" (defScope s__law_mixed) (He.ga K "_law_mixed") cdv A outer s0 H0 E) (WofE E) := takes_of rfl rfl rfl rfl
  have po : PassesOwn (model P w) (cxOf (L2.CX P w) P w K mg base N__law_mixed "_law_mixed" (defScope s__law_mixed) (He.ga K "_law_mixed") cdv A outer s0 H0 E).A (cxOf (L2.CX P w) P w K mg base N__law_mixed "_law_mixed" (defScope s__law_mixed) (He.ga K "_law_mixed") cdv A outer s0 H0 E).env (cxOf (L2.CX P w) P w K mg base N__law_mixed "_law_mixed" (defScope s__law_mixed) (He.ga K "_law_mixed") cdv A outer s0 H0 E).xe := passes_of (X := (cxOf (L2.CX P w) P w K mg base N__law_mixed "_law_mixed" (defScope s__law_mixed) (He.ga K "_law_mixed") cdv A outer s0 H0 E)) rfl
  have hu := hr.units
  exact (s_cons (s_asg (e_bin o_mod (e_bin o_mul (e_bin o_add (e_bin o_add (e_call (ok__law_cell_at Z) hr tk rfl (a_cons (e_var (pv 0)) (a_cons (e_var (pv 1)) a_nil))) (e_bin o_mul e_int (e_var (pv 1)))) e_int) e_int) e_int) (g_name (pg_name (i := 2) sc__law_mixed.nd rfl (Or.inl rfl))))
    (s_one (s_ret (e_bin o_mod (e_bin o_add (e_bin o_add (e_bin o_mul (e_var (pv 2)) (e_var (pv 2))) (e_bin o_mul e_int (e_var (pv 2)))) (e_var (pv 1))) e_int))))
theorem sc__law_drawn : FnScope N__law_drawn ["number", "k"] (defScope s__law_drawn) := ⟨rfl, rfl, rfl, by decide +kernel, rfl, by decide +kernel, by decide +kernel⟩
theorem ok__law_drawn (Z : Top w K mg) : OkD P w K mg base T 1 "_law_drawn" 2 d__law_drawn := by
  obtain ⟨fd, Fd⟩ := Z.f__law_drawn
  refine ⟨⟨fd, ["number", "k"], fn_ok Fd sc__law_drawn rfl fun cdv A outer s0 H0 E F0 hr => ?_, Fd.bindsN (ps := ["number", "k"]) (fun _ _ _ _ _ _ us hl => match us, hl with | [_, _], _ => rfl)⟩, Fd.kp, Z.m__law_drawn⟩
  have tk : Takes (cxOf (L2.CX P w) P w K mg base N__law_drawn "_law_drawn" (defScope s__law_drawn) (He.ga K "_law_drawn") cdv A outer s0 H0 E) (WofE E) := takes_of rfl rfl rfl rfl
  have po : PassesOwn (model P w) (cxOf (L2.CX P w) P w K mg base N__law_drawn "_law_drawn" (defScope s__law_drawn) (He.ga K "_law_drawn") cdv A outer s0 H0 E).A (cxOf (L2.CX P w) P w K mg base N__law_drawn "_law_drawn" (defScope s__law_drawn) (He.ga K "_law_drawn") cdv A outer s0 H0 E).env (cxOf (L2.CX P w) P w K mg base N__law_drawn "_law_drawn" (defScope s__law_drawn) (He.ga K "_law_drawn") cdv A outer s0 H0 E).xe := passes_of (X := (cxOf (L2.CX P w) P w K mg base N__law_drawn "_law_drawn" (defScope s__law_drawn) (He.ga K "_law_drawn") cdv A outer s0 H0 E)) rfl
  have hu := hr.units
  exact (s_cons (s_asg (e_bin o_mod (e_bin o_mul (e_bin o_add (e_bin o_add (e_var (pv 0)) (e_bin o_mul e_int (e_var (pv 1)))) e_int) e_int) e_int) (g_name (pg_name (i := 2) sc__law_drawn.nd rfl (Or.inl rfl))))
    (s_one (s_ret (e_bin o_mod (e_bin o_add (e_bin o_add (e_bin o_mul (e_var (pv 2)) (e_var (pv 2))) (e_bin o_mul e_int (e_var (pv 2)))) (e_var (pv 1))) e_int))))
theorem sc__law_formula : FnScope N__law_formula ["number", "deep"] (defScope s__law_formula) := ⟨rfl, rfl, rfl, by decide +kernel, rfl, by decide +kernel, by decide +kernel⟩
theorem ok__law_formula (n : Nat) (Z : Top w K mg) : OkD P w K mg base T (n * 1 + 2) "_law_formula" 2 (d__law_formula n) := by
  induction n with
  | zero => exact ok_bad (k := 1) (Z.f__law_formula) (Z.m__law_formula) sc__law_formula rfl (fun fd Fd => Fd.bindsN (ps := ["number", "deep"]) (fun _ _ _ _ _ _ us hl => match us, hl with | [_, _], _ => rfl))
  | succ n ih0 =>
  have ih : Top w K mg → OkD P w K mg base T (n * 1 + 2) "_law_formula" 2 (d__law_formula n) := fun _ => ih0
  have e : (n + 1) * 1 + 2 = (n * 1 + 0 + 2) + 1 := by omega
  rw [e]
  obtain ⟨fd, Fd⟩ := Z.f__law_formula
  refine ⟨⟨fd, ["number", "deep"], fn_ok Fd sc__law_formula rfl fun cdv A outer s0 H0 E F0 hr => ?_, Fd.bindsN (ps := ["number", "deep"]) (fun _ _ _ _ _ _ us hl => match us, hl with | [_, _], _ => rfl)⟩, Fd.kp, Z.m__law_formula⟩
  have tk : Takes (cxOf (L2.CX P w) P w K mg base N__law_formula "_law_formula" (defScope s__law_formula) (He.ga K "_law_formula") cdv A outer s0 H0 E) (WofE E) := takes_of rfl rfl rfl rfl
  have po : PassesOwn (model P w) (cxOf (L2.CX P w) P w K mg base N__law_formula "_law_formula" (defScope s__law_formula) (He.ga K "_law_formula") cdv A outer s0 H0 E).A (cxOf (L2.CX P w) P w K mg base N__law_formula "_law_formula" (defScope s__law_formula) (He.ga K "_law_formula") cdv A outer s0 H0 E).env (cxOf (L2.CX P w) P w K mg base N__law_formula "_law_formula" (defScope s__law_formula) (He.ga K "_law_formula") cdv A outer s0 H0 E).xe := passes_of (X := (cxOf (L2.CX P w) P w K mg base N__law_formula "_law_formula" (defScope s__law_formula) (He.ga K "_law_formula") cdv A outer s0 H0 E)) rfl
  have hu := hr.units
  exact (s_cons (s_if (q_w (w_or (q_cmp (o_eq hu) (e_var (pv 1)) e_int (nomark _)) (w_or1 (q_cmp (o_eq hu) (e_bin o_mod (e_var (pv 0)) e_int) e_int (nomark _))))) (s_one (s_ret (e_ix (e_lst (a_cons (e_tup (a_cons e_str (a_cons (e_bin o_mod (e_bin o_div (e_var (pv 0)) e_int) e_int) a_nil))) (a_cons (e_tup (a_cons e_str (a_cons (e_bin o_mod (e_bin o_div (e_var (pv 0)) e_int) e_int) a_nil))) a_nil))) (e_bin o_mod (e_bin o_div (e_var (pv 0)) e_int) e_int)))) s_nil)
    (s_cons (s_asg (e_call (ih Z) hr tk rfl (a_cons (e_bin o_div (e_call (ok__law_drawn Z) hr tk rfl (a_cons (e_var (pv 0)) (a_cons e_int a_nil)) (by omega)) e_int) (a_cons (e_bin o_sub (e_var (pv 1)) e_int) a_nil)) (by omega)) (g_name (pg_name (i := 2) sc__law_formula.nd rfl (Or.inl rfl))))
    (s_cons (s_if (q_cmp (o_eq hu) (e_bin o_mod (e_var (pv 0)) e_int) e_int (nomark _)) (s_one (s_ret (e_tup (a_cons e_str (a_cons (e_var (pv 2)) a_nil))))) s_nil)
    (s_cons (s_asg (e_call (ih Z) hr tk rfl (a_cons (e_bin o_div (e_call (ok__law_drawn Z) hr tk rfl (a_cons (e_var (pv 0)) (a_cons e_int a_nil)) (by omega)) e_int) (a_cons (e_bin o_sub (e_bin o_sub (e_var (pv 1)) e_int) (e_bin o_mul (e_bin o_mod (e_bin o_div (e_var (pv 0)) e_int) e_int) (e_callTy c_int rfl Z.b_int bt_int (a_cons (e_cmp o_gt (e_var (pv 1)) e_int (nomark _)) a_nil)))) a_nil)) (by omega)) (g_name (pg_name (i := 3) sc__law_formula.nd rfl (Or.inl rfl))))
    (s_one (s_ret (e_tup (a_cons (e_ix (e_tup (a_cons e_str (a_cons e_str (a_cons e_str a_nil)))) (e_bin o_mod (e_bin o_div (e_var (pv 0)) e_int) e_int)) (a_cons (e_var (pv 2)) (a_cons (e_var (pv 3)) a_nil))))))))))
theorem sc__law_value : FnScope N__law_value ["formula", "boxes"] (defScope s__law_value) := ⟨rfl, rfl, rfl, by decide +kernel, rfl, by decide +kernel, by decide +kernel⟩
theorem ok__law_value (n : Nat) (Z : Top w K mg) : OkD P w K mg base T (n * 1 + 1) "_law_value" 2 (d__law_value n) := by
  induction n with
  | zero => exact ok_bad (k := 0) (Z.f__law_value) (Z.m__law_value) sc__law_value rfl (fun fd Fd => Fd.bindsN (ps := ["formula", "boxes"]) (fun _ _ _ _ _ _ us hl => match us, hl with | [_, _], _ => rfl))
  | succ n ih0 =>
  have ih : Top w K mg → OkD P w K mg base T (n * 1 + 1) "_law_value" 2 (d__law_value n) := fun _ => ih0
  have e : (n + 1) * 1 + 1 = (n * 1 + 0 + 1) + 1 := by omega
  rw [e]
  obtain ⟨fd, Fd⟩ := Z.f__law_value
  refine ⟨⟨fd, ["formula", "boxes"], fn_ok Fd sc__law_value rfl fun cdv A outer s0 H0 E F0 hr => ?_, Fd.bindsN (ps := ["formula", "boxes"]) (fun _ _ _ _ _ _ us hl => match us, hl with | [_, _], _ => rfl)⟩, Fd.kp, Z.m__law_value⟩
  have tk : Takes (cxOf (L2.CX P w) P w K mg base N__law_value "_law_value" (defScope s__law_value) (He.ga K "_law_value") cdv A outer s0 H0 E) (WofE E) := takes_of rfl rfl rfl rfl
  have po : PassesOwn (model P w) (cxOf (L2.CX P w) P w K mg base N__law_value "_law_value" (defScope s__law_value) (He.ga K "_law_value") cdv A outer s0 H0 E).A (cxOf (L2.CX P w) P w K mg base N__law_value "_law_value" (defScope s__law_value) (He.ga K "_law_value") cdv A outer s0 H0 E).env (cxOf (L2.CX P w) P w K mg base N__law_value "_law_value" (defScope s__law_value) (He.ga K "_law_value") cdv A outer s0 H0 E).xe := passes_of (X := (cxOf (L2.CX P w) P w K mg base N__law_value "_law_value" (defScope s__law_value) (He.ga K "_law_value") cdv A outer s0 H0 E)) rfl
  have hu := hr.units
  exact (s_cons (s_if (q_cmp (o_eq hu) (e_ix (e_var (pv 0)) e_int) e_str (nomark _)) (s_one (s_ret (e_ix (e_var (pv 1)) (e_ix (e_var (pv 0)) e_int)))) s_nil)
    (s_cons (s_if (q_cmp (o_eq hu) (e_ix (e_var (pv 0)) e_int) e_str (nomark _)) (s_one (s_ret (e_ix (e_var (pv 0)) e_int))) s_nil)
    (s_cons (s_setLc (j := 2) (x := "part") (i := 3) rfl sc__law_value.nd rfl rfl (sw_true rfl rfl rfl (by decide +kernel)) (i_any (e_sl (e_var (pv 0)) (p_some e_int) p_none)) (blkOk_by (N := N__law_value) (sc := defScope s__law_value) (by decide +kernel)) (fun _ _ _ _ _ => pg_name (i := 3) sc__law_value.nd rfl (Or.inl rfl)) (fun _ _ _ _ _ => ts_nil) (fun _ _ _ _ _ => (e_call (ih Z) hr L2.takes0 rfl (a_cons (e_var (pv 3)) (a_cons (e_var (pv 1)) a_nil)) (by omega))))
    (s_cons (s_if (q_cmp (o_eq hu) (e_ix (e_var (pv 0)) e_int) e_str (nomark _)) (s_one (s_ret (e_una u_neg (e_ix (e_var (pv 2)) e_int)))) s_nil)
    (s_one (s_ret (e_dix (ks := ["plus", "minus", "times"]) (lt1 hu) (dp_cons (e_bin o_add (e_ix (e_var (pv 2)) e_int) (e_ix (e_var (pv 2)) e_int)) (dp_cons (e_bin o_sub (e_ix (e_var (pv 2)) e_int) (e_ix (e_var (pv 2)) e_int)) (dp_cons (e_bin o_mul (e_ix (e_var (pv 2)) e_int) (e_ix (e_var (pv 2)) e_int)) dp_nil))) (e_ix (e_var (pv 0)) e_int) (by simp) (by decide) (by decide +kernel) (fun _ _ => rfl))))))))
theorem sc__law_is : FnScope N__law_is ["thing", "deep"] (defScope s__law_is) := ⟨rfl, rfl, rfl, by decide +kernel, rfl, by decide +kernel, by decide +kernel⟩
theorem ok__law_is (n : Nat) (Z : Top w K mg) : OkD P w K mg base T (n * 1 + 1) "_law_is" 2 (d__law_is n) := by
  induction n with
  | zero => exact ok_bad (k := 0) (Z.f__law_is) (Z.m__law_is) sc__law_is rfl (fun fd Fd => Fd.bindsN (ps := ["thing", "deep"]) (fun _ _ _ _ _ _ us hl => match us, hl with | [_, _], _ => rfl))
  | succ n ih0 =>
  have ih : Top w K mg → OkD P w K mg base T (n * 1 + 1) "_law_is" 2 (d__law_is n) := fun _ => ih0
  have e : (n + 1) * 1 + 1 = (n * 1 + 0 + 1) + 1 := by omega
  rw [e]
  obtain ⟨fd, Fd⟩ := Z.f__law_is
  refine ⟨⟨fd, ["thing", "deep"], fn_ok Fd sc__law_is rfl fun cdv A outer s0 H0 E F0 hr => ?_, Fd.bindsN (ps := ["thing", "deep"]) (fun _ _ _ _ _ _ us hl => match us, hl with | [_, _], _ => rfl)⟩, Fd.kp, Z.m__law_is⟩
  have tk : Takes (cxOf (L2.CX P w) P w K mg base N__law_is "_law_is" (defScope s__law_is) (He.ga K "_law_is") cdv A outer s0 H0 E) (WofE E) := takes_of rfl rfl rfl rfl
  have po : PassesOwn (model P w) (cxOf (L2.CX P w) P w K mg base N__law_is "_law_is" (defScope s__law_is) (He.ga K "_law_is") cdv A outer s0 H0 E).A (cxOf (L2.CX P w) P w K mg base N__law_is "_law_is" (defScope s__law_is) (He.ga K "_law_is") cdv A outer s0 H0 E).env (cxOf (L2.CX P w) P w K mg base N__law_is "_law_is" (defScope s__law_is) (He.ga K "_law_is") cdv A outer s0 H0 E).xe := passes_of (X := (cxOf (L2.CX P w) P w K mg base N__law_is "_law_is" (defScope s__law_is) (He.ga K "_law_is") cdv A outer s0 H0 E)) rfl
  have hu := hr.units
  exact (s_cons (s_if (q_w (w_or (q_cmp (o_eq hu) (e_var (pv 1)) e_int (nomark _)) (w_or (q_not (q_val (e_callB c_isi rfl Z.b_isinstance bt_isinstance (a_cons (e_var (pv 0)) (a_cons (e_ty Z.b_tuple bt_tuple rfl) a_nil))))) (w_or (q_cmp o_lt (e_callB c_len rfl Z.b_len bt_len (a_cons (e_var (pv 0)) a_nil)) e_int (nomark _)) (w_or1 (q_not (q_val (e_callB c_isi rfl Z.b_isinstance bt_isinstance (a_cons (e_ix (e_var (pv 0)) e_int) (a_cons (e_ty Z.b_str bt_str rfl) a_nil)))))))))) (s_one (s_ret e_bl)) s_nil)
    (s_cons (s_if (q_cmp (o_in hu) (e_ix (e_var (pv 0)) e_int) (e_tup (a_cons e_str (a_cons e_str a_nil))) (by rfl)) (s_cons (s_asg (e_ix (e_lst (a_cons e_int (a_cons e_int a_nil))) (e_callTy c_int rfl Z.b_int bt_int (a_cons (e_cmp (o_eq hu) (e_ix (e_var (pv 0)) e_int) e_str (nomark _)) a_nil))) (g_name (pg_name (i := 2) sc__law_is.nd rfl (Or.inl rfl))))
    (s_cons (s_asg (e_and (e_callB c_isi rfl Z.b_isinstance bt_isinstance (a_cons (e_ix (e_var (pv 0)) e_int) (a_cons (e_ty Z.b_int bt_int rfl) a_nil))) (e_one (e_not (e_callB c_isi rfl Z.b_isinstance bt_isinstance (a_cons (e_ix (e_var (pv 0)) e_int) (a_cons (e_ty Z.b_bool bt_bool rfl) a_nil)))))) (g_name (pg_name (i := 3) sc__law_is.nd rfl (Or.inl rfl))))
    (s_one (s_ret (e_and (e_cmp (o_eq hu) (e_callB c_len rfl Z.b_len bt_len (a_cons (e_var (pv 0)) a_nil)) e_int (nomark _)) (e_and (e_var (pv 3)) (e_one (e_chn o_le o_le e_int (e_ix (e_var (pv 0)) e_int) (e_var (pv 2)))))))))) s_nil)
    (s_cons (s_asg (e_dget (ks := ["sign", "plus", "minus", "times"]) (lt1 hu) (dp_cons e_int (dp_cons e_int (dp_cons e_int (dp_cons e_int dp_nil)))) (e_ix (e_var (pv 0)) e_int) e_int (by simp) (by decide) (by decide +kernel) ⟨rfl, rfl, rfl, rfl⟩) (g_name (pg_name (i := 4) sc__law_is.nd rfl (Or.inl rfl))))
    (s_one (s_ret (e_and (e_cmp (o_eq hu) (e_callB c_len rfl Z.b_len bt_len (a_cons (e_var (pv 0)) a_nil)) (e_var (pv 4)) (nomark _)) (e_one (e_cmp (o_eq hu) (e_lc (x := "part") (i := 5) rfl sc__law_is.nd (i_any (e_sl (e_var (pv 0)) (p_some e_int) p_none)) (blkOk_by (N := N__law_is) (sc := defScope s__law_is) (by decide +kernel)) (fun _ _ _ _ _ => pg_name (i := 5) sc__law_is.nd rfl (Or.inl rfl)) (fun _ _ _ _ _ => (ts_one (q_not (q_val (e_call (ih Z) hr L2.takes0 rfl (a_cons (e_var (pv 5)) (a_cons (e_bin o_sub (e_var (pv 1)) e_int) a_nil)) (by omega)))))) (fun _ _ _ _ _ => (e_var (pv 5)))) (e_lst a_nil) (nomark _)))))))))
theorem sc__law_places_in : FnScope N__law_places_in ["bent_one", "bent_way"] (defScope s__law_places_in) := ⟨rfl, rfl, rfl, by decide +kernel, rfl, by decide +kernel, by decide +kernel⟩
theorem ok__law_places_in (n : Nat) (Z : Top w K mg) : OkD P w K mg base T (n * 1 + 1) "_law_places_in" 2 (d__law_places_in n) := by
  induction n with
  | zero => exact ok_bad (k := 0) (Z.f__law_places_in) (Z.m__law_places_in) sc__law_places_in rfl (fun fd Fd => Fd.bindsN (ps := ["bent_one", "bent_way"]) (fun _ _ _ _ _ _ us hl => match us, hl with | [_, _], _ => rfl))
  | succ n ih0 =>
  have ih : Top w K mg → OkD P w K mg base T (n * 1 + 1) "_law_places_in" 2 (d__law_places_in n) := fun _ => ih0
  have e : (n + 1) * 1 + 1 = (n * 1 + 0 + 1) + 1 := by omega
  rw [e]
  obtain ⟨fd, Fd⟩ := Z.f__law_places_in
  refine ⟨⟨fd, ["bent_one", "bent_way"], fn_ok Fd sc__law_places_in rfl fun cdv A outer s0 H0 E F0 hr => ?_, Fd.bindsN (ps := ["bent_one", "bent_way"]) (fun _ _ _ _ _ _ us hl => match us, hl with | [_, _], _ => rfl)⟩, Fd.kp, Z.m__law_places_in⟩
  have tk : Takes (cxOf (L2.CX P w) P w K mg base N__law_places_in "_law_places_in" (defScope s__law_places_in) (He.ga K "_law_places_in") cdv A outer s0 H0 E) (WofE E) := takes_of rfl rfl rfl rfl
  have po : PassesOwn (model P w) (cxOf (L2.CX P w) P w K mg base N__law_places_in "_law_places_in" (defScope s__law_places_in) (He.ga K "_law_places_in") cdv A outer s0 H0 E).A (cxOf (L2.CX P w) P w K mg base N__law_places_in "_law_places_in" (defScope s__law_places_in) (He.ga K "_law_places_in") cdv A outer s0 H0 E).env (cxOf (L2.CX P w) P w K mg base N__law_places_in "_law_places_in" (defScope s__law_places_in) (He.ga K "_law_places_in") cdv A outer s0 H0 E).xe := passes_of (X := (cxOf (L2.CX P w) P w K mg base N__law_places_in "_law_places_in" (defScope s__law_places_in) (He.ga K "_law_places_in") cdv A outer s0 H0 E)) rfl
  have hu := hr.units
  exact (s_cons (s_asg (e_lst (a_cons (e_var (pv 1)) a_nil)) (g_name (pg_name (i := 2) sc__law_places_in.nd rfl (Or.inl rfl))))
    (s_cons (s_if (q_val (e_callB c_isi rfl Z.b_isinstance bt_isinstance (a_cons (e_var (pv 0)) (a_cons (e_ty Z.b_tuple bt_tuple rfl) a_nil)))) (s_one (s_for po rfl (i_enum rfl Z.b_enumerate (a_cons (e_var (pv 0)) a_nil)) (g_tup rfl (gs_cons (g_name (pg_name (i := 3) sc__law_places_in.nd rfl (Or.inl rfl))) (gs_cons (g_name (pg_name (i := 4) sc__law_places_in.nd rfl (Or.inl rfl))) gs_nil))) (s_one (s_asg (e_bin o_add (e_var (pv 2)) (e_call (ih Z) hr tk rfl (a_cons (e_var (pv 4)) (a_cons (e_bin o_add (e_var (pv 1)) (e_tup (a_cons (e_var (pv 3)) a_nil))) a_nil)) (by omega))) (g_name (pg_name (i := 2) sc__law_places_in.nd rfl (Or.inl rfl))))))) s_nil)
    (s_one (s_ret (e_var (pv 2))))))
theorem sc__law_otherwise : FnScope N__law_otherwise ["bent_one", "bent_number"] (defScope s__law_otherwise) := ⟨rfl, rfl, rfl, by decide +kernel, rfl, by decide +kernel, by decide +kernel⟩
theorem ok__law_otherwise (Z : Top w K mg) : OkD P w K mg base T 1 "_law_otherwise" 2 d__law_otherwise := by
  obtain ⟨fd, Fd⟩ := Z.f__law_otherwise
  refine ⟨⟨fd, ["bent_one", "bent_number"], fn_ok Fd sc__law_otherwise rfl fun cdv A outer s0 H0 E F0 hr => ?_, Fd.bindsN (ps := ["bent_one", "bent_number"]) (fun _ _ _ _ _ _ us hl => match us, hl with | [_, _], _ => rfl)⟩, Fd.kp, Z.m__law_otherwise⟩
  have tk : Takes (cxOf (L2.CX P w) P w K mg base N__law_otherwise "_law_otherwise" (defScope s__law_otherwise) (He.ga K "_law_otherwise") cdv A outer s0 H0 E) (WofE E) := takes_of rfl rfl rfl rfl
  have po : PassesOwn (model P w) (cxOf (L2.CX P w) P w K mg base N__law_otherwise "_law_otherwise" (defScope s__law_otherwise) (He.ga K "_law_otherwise") cdv A outer s0 H0 E).A (cxOf (L2.CX P w) P w K mg base N__law_otherwise "_law_otherwise" (defScope s__law_otherwise) (He.ga K "_law_otherwise") cdv A outer s0 H0 E).env (cxOf (L2.CX P w) P w K mg base N__law_otherwise "_law_otherwise" (defScope s__law_otherwise) (He.ga K "_law_otherwise") cdv A outer s0 H0 E).xe := passes_of (X := (cxOf (L2.CX P w) P w K mg base N__law_otherwise "_law_otherwise" (defScope s__law_otherwise) (He.ga K "_law_otherwise") cdv A outer s0 H0 E)) rfl
  have hu := hr.units
  exact (s_cons (s_if (q_val (e_callB c_isi rfl Z.b_isinstance bt_isinstance (a_cons (e_var (pv 0)) (a_cons (e_ty Z.b_tuple bt_tuple rfl) a_nil)))) (s_cons (s_asg (e_lst (a_cons (e_callTy (c_list rfl) rfl Z.b_list bt_list (a_cons (e_var (pv 0)) a_nil)) (a_cons (e_callTy (c_list rfl) rfl Z.b_list bt_list (a_cons (e_var (pv 0)) a_nil)) (a_cons (e_bin o_add (e_var (pv 0)) (e_sl (e_var (pv 0)) p_none (p_some e_int))) a_nil)))) (g_name (pg_name (i := 2) sc__law_otherwise.nd rfl (Or.inl rfl))))
    (s_one (s_ret (e_ix (e_bin o_add (e_var (pv 2)) (e_lst (a_cons (e_sl (e_var (pv 0)) (p_some e_int) p_none) (a_cons (e_lst (a_cons (e_var (pv 0)) a_nil)) a_nil)))) (e_bin o_mod (e_var (pv 1)) e_int))))) s_nil)
    (s_cons (s_if (q_val (e_callB c_isi rfl Z.b_isinstance bt_isinstance (a_cons (e_var (pv 0)) (a_cons (e_ty Z.b_bool bt_bool rfl) a_nil)))) (s_one (s_ret (e_ix (e_lst (a_cons (e_callTy c_int rfl Z.b_int bt_int (a_cons (e_var (pv 0)) a_nil)) (a_cons e_non (a_cons (e_callTy c_str rfl Z.b_str bt_str (a_cons (e_var (pv 0)) a_nil)) a_nil)))) (e_bin o_mod (e_var (pv 1)) e_int)))) s_nil)
    (s_cons (s_if (q_val (e_callB c_isi rfl Z.b_isinstance bt_isinstance (a_cons (e_var (pv 0)) (a_cons (e_ty Z.b_int bt_int rfl) a_nil)))) (s_cons (s_asg (e_lst (a_cons e_bl (a_cons e_non (a_cons (e_callTy c_str rfl Z.b_str bt_str (a_cons (e_var (pv 0)) a_nil)) (a_cons (e_tup (a_cons (e_var (pv 0)) a_nil)) a_nil))))) (g_name (pg_name (i := 2) sc__law_otherwise.nd rfl (Or.inl rfl))))
    (s_one (s_ret (e_ix (e_bin o_add (e_var (pv 2)) (e_lst (a_cons (e_bin o_sub (e_una u_neg e_int) (e_var (pv 0))) a_nil))) (e_bin o_mod (e_var (pv 1)) e_int))))) s_nil)
    (s_one (s_ret (e_ix (e_lst (a_cons e_non (a_cons (e_tup (a_cons (e_var (pv 0)) a_nil)) (a_cons (e_lst (a_cons (e_var (pv 0)) a_nil)) (a_cons e_str (a_cons e_int a_nil)))))) (e_bin o_mod (e_var (pv 1)) e_int)))))))
theorem sc__law_put_at : FnScope N__law_put_at ["bent_one", "bent_way", "bent_by"] (defScope s__law_put_at) := ⟨rfl, rfl, rfl, by decide +kernel, rfl, by decide +kernel, by decide +kernel⟩
theorem ok__law_put_at {f c : Addr} {cl : List (Str × Addr)} {nn : Int} (n : Nat) (Z : Top w K mg) (LB : LamB base f c lamQ lamP lamE lamS cl "number" nn) : OkD P w K mg base T (n + 2) "_law_put_at" 3 (d__law_put_at f (fun d => fl__law_spoilt_v2 [.z d, .z (.int nn)]) n) := by
  induction n with
  | zero => exact ok_bad (k := 1) (Z.f__law_put_at) (Z.m__law_put_at) sc__law_put_at rfl (fun fd Fd => Fd.bindsN (ps := ["bent_one", "bent_way", "bent_by"]) (fun _ _ _ _ _ _ us hl => match us, hl with | [_, _, _], _ => rfl))
  | succ n ih0 =>
  have ih : Top w K mg → OkD P w K mg base T (n + 2) "_law_put_at" 3 (d__law_put_at f (fun d => fl__law_spoilt_v2 [.z d, .z (.int nn)]) n) := fun _ => ih0
  have Sc := sc__law_put_at
  have e : (n + 1) + 2 = (n + 2) + 1 := by omega
  rw [e]
  obtain ⟨fd, Fd⟩ := Z.f__law_put_at
  refine ⟨⟨fd, ["bent_one", "bent_way", "bent_by"], fn_ok Fd sc__law_put_at rfl fun cdv A outer s0 H0 E F0 hr => ?_, Fd.bindsN (ps := ["bent_one", "bent_way", "bent_by"]) (fun _ _ _ _ _ _ us hl => match us, hl with | [_, _, _], _ => rfl)⟩, Fd.kp, Z.m__law_put_at⟩
  have tk : Takes (cxOf (L2.CX P w) P w K mg base N__law_put_at "_law_put_at" (defScope s__law_put_at) (He.ga K "_law_put_at") cdv A outer s0 H0 E) (WofE E) := takes_of rfl rfl rfl rfl
  have po : PassesOwn (model P w) (cxOf (L2.CX P w) P w K mg base N__law_put_at "_law_put_at" (defScope s__law_put_at) (He.ga K "_law_put_at") cdv A outer s0 H0 E).A (cxOf (L2.CX P w) P w K mg base N__law_put_at "_law_put_at" (defScope s__law_put_at) (He.ga K "_law_put_at") cdv A outer s0 H0 E).env (cxOf (L2.CX P w) P w K mg base N__law_put_at "_law_put_at" (defScope s__law_put_at) (He.ga K "_law_put_at") cdv A outer s0 H0 E).xe := passes_of (X := (cxOf (L2.CX P w) P w K mg base N__law_put_at "_law_put_at" (defScope s__law_put_at) (He.ga K "_law_put_at") cdv A outer s0 H0 E)) rfl
  have hu := hr.units
  exact (s_cons (s_if (q_cmp (o_eq hu) (e_var (pv 1)) (e_tup a_nil) (nomark _)) (s_one (s_ret (e_callA (k := 1) LB lamSc (by intros; rfl) (fun _ _ _ _ hr => (e_call (ok__law_otherwise Z) hr (takes_of rfl rfl rfl rfl) rfl (a_cons (e_var (pv 0)) (a_cons (e_bin o_div (e_var (pv 1)) e_int) a_nil)))) (hr.mono (by omega)) tk rfl (Sc.par "bent_by" (by simp) |>.elim .inl fun z => .inr (.inl z)) (e_var (pv 0))))) s_nil)
    (s_cons (s_asg (e_ix (e_var (pv 1)) e_int) (g_name (pg_name (i := 3) sc__law_put_at.nd rfl (Or.inl rfl))))
    (s_cons (s_asg (e_call (ih Z) hr tk rfl (a_cons (e_ix (e_var (pv 0)) (e_var (pv 3))) (a_cons (e_sl (e_var (pv 1)) (p_some e_int) p_none) (a_cons (e_var (pv 2)) a_nil))) (by omega)) (g_name (pg_name (i := 4) sc__law_put_at.nd rfl (Or.inl rfl))))
    (s_one (s_ret (e_bin o_add (e_bin o_add (e_sl (e_var (pv 0)) p_none (p_some (e_var (pv 3)))) (e_tup (a_cons (e_var (pv 4)) a_nil))) (e_sl (e_var (pv 0)) (p_some (e_bin o_add (e_var (pv 3)) e_int)) p_none)))))))
/-! what _law_put_at does is the same wherever the lambda lies (gen.py prints this text behind ok__law_put_at) -/
theorem fin_ret (r : Res D) {ρ ρ' : Rho} : finR (retR r ρ) = finR (retR r ρ') := by cases r <;> rfl
theorem put_ind (f : Addr) (L : D → Res D) : ∀ (n : Nat) (a b : D), d__law_put_at f L n [a, b, .adr f] = d__law_put_at 0 L n [a, b, .adr 0]
  | 0, _, _ => rfl
  | n + 1, a, b => by
    have ih := put_ind f L n
    rw [v__law_put_at, v__law_put_at]
    have c1 : callA f L 2 (var 0) [.z a, .z b, .z (.adr f), .u, .u] = L a := by unfold callA; simp; rfl
    have c2 : callA 0 L 2 (var 0) [.z a, .z b, .z (.adr 0), .u, .u] = L a := by unfold callA; simp; rfl
    simp?! [g__law_put_at]
    cases h0 : tstR (ofO (eqD b (.tup []))) with
    | bad => rfl
    | ex m => rfl
    | ok v =>
      cases v with
      | true =>
        simp?! [c1, c2]
        cases L a <;> rfl
      | false =>
        cases h1 : ixD b (.int 0) with
        | none => simp?! [h1]; rfl
        | some x =>
          cases h2 : ixD a x with
          | none => simp?! [h1, h2]; rfl
          | some y =>
            cases h3 : slD b (some 1) none with
            | none => simp?! [h1, h2, psmR_ok, h3]; rfl
            | some z => 
              simp?! [h1, h2, psmR_ok, h3, ih]
              cases h4 : d__law_put_at 0 L n [y, z, .adr 0] with
              | ok d =>
                simp?! []
                exact fin_ret _
              | ex m => simp?! []
              | bad => rfl

theorem sc__law_spoilt : FnScope N__law_spoilt_v2 ["thing", "number", "deep"] (defScope s__law_spoilt) := ⟨rfl, rfl, rfl, by decide +kernel, rfl, by decide +kernel, by decide +kernel⟩
theorem ok__law_spoilt (Z : Top w K mg) (B : ∀ d ∈ tfs, LamX.TabB base mg (He.cT K d).1 (He.cT K d).2) : OkD P w K mg base (tabT K) 15 "_law_spoilt" 3 d__law_spoilt_v2 := by
  obtain ⟨fd, Fd⟩ := Z.f__law_spoilt
  refine ⟨⟨fd, ["thing", "number", "deep"], fn_okC Fd sc__law_spoilt rfl fun A outer s0 H0 E F0 hr => ?_, Fd.bindsN (ps := ["thing", "number", "deep"]) (fun _ _ _ _ _ _ us hl => match us, hl with | [_, _, _], _ => rfl)⟩, Fd.kp, Z.m__law_spoilt⟩
  have tk : Takes (cxOf (L2.CX P w) P w K mg base N__law_spoilt_v2 "_law_spoilt" (defScope s__law_spoilt) (He.ga K "_law_spoilt") (.ref (He.cT K ("_law_spoilt", none)).1) A outer s0 H0 E) (WofE E) := takes_of rfl rfl rfl rfl
  have po : PassesOwn (model P w) (cxOf (L2.CX P w) P w K mg base N__law_spoilt_v2 "_law_spoilt" (defScope s__law_spoilt) (He.ga K "_law_spoilt") (.ref (He.cT K ("_law_spoilt", none)).1) A outer s0 H0 E).A (cxOf (L2.CX P w) P w K mg base N__law_spoilt_v2 "_law_spoilt" (defScope s__law_spoilt) (He.ga K "_law_spoilt") (.ref (He.cT K ("_law_spoilt", none)).1) A outer s0 H0 E).env (cxOf (L2.CX P w) P w K mg base N__law_spoilt_v2 "_law_spoilt" (defScope s__law_spoilt) (He.ga K "_law_spoilt") (.ref (He.cT K ("_law_spoilt", none)).1) A outer s0 H0 E).xe := passes_of (X := (cxOf (L2.CX P w) P w K mg base N__law_spoilt_v2 "_law_spoilt" (defScope s__law_spoilt) (He.ga K "_law_spoilt") (.ref (He.cT K ("_law_spoilt", none)).1) A outer s0 H0 E)) rfl
  have hu := hr.units
  exact (s_cons (s_asg (e_call (ok__law_places_in 12 Z) hr tk rfl (a_cons (e_var (pv 0)) (a_cons (e_tup a_nil) a_nil))) (g_name (pg_name (i := 3) sc__law_spoilt.nd rfl (Or.inl rfl))))
    (s_cons (s_asg (e_ix (e_var (pv 3)) (e_bin o_mod (e_var (pv 1)) (e_callB c_len rfl Z.b_len bt_len (a_cons (e_var (pv 3)) a_nil)))) (g_name (pg_name (i := 4) sc__law_spoilt.nd rfl (Or.inl rfl))))
    (s_one (s_ret (e_lam3 rfl Z.m__law_put_at (Z.f__law_put_at.elim fun _ Fd => Fd.kp) rfl (fun base f c cl n LB => ok__law_put_at 12 Z LB) (fun f L a b => put_ind f L 12 a b) (B ("_law_spoilt", none) (by unfold tfs; simp)) rfl rfl rfl lamSc (NdefX.ndef_free lamNd) (NdefX.ndef_fr lamNd) rfl (fun _ => rfl) hr (by decide) (e_var (pv 0)) (e_var (pv 4)))))))
theorem sc__law_once : FnScope N__law_once ["script"] (defScope s__law_once) := ⟨rfl, rfl, rfl, by decide +kernel, rfl, by decide +kernel, by decide +kernel⟩
theorem ok__law_once (Z : Top w K mg) (B : ∀ d ∈ tfs, LamX.TabB base mg (He.cT K d).1 (He.cT K d).2) : OkD P w K mg base (tabT K) 16 "_law_once" 1 d__law_once := by
  obtain ⟨fd, Fd⟩ := Z.f__law_once
  refine ⟨⟨fd, ["script"], fn_ok Fd sc__law_once rfl fun cdv A outer s0 H0 E F0 hr => ?_, Fd.bindsN (ps := ["script"]) (fun _ _ _ _ _ _ us hl => match us, hl with | [_], _ => rfl)⟩, Fd.kp, Z.m__law_once⟩
  have tk : Takes (cxOf (L2.CX P w) P w K mg base N__law_once "_law_once" (defScope s__law_once) (He.ga K "_law_once") cdv A outer s0 H0 E) (WofE E) := takes_of rfl rfl rfl rfl
  have po : PassesOwn (model P w) (cxOf (L2.CX P w) P w K mg base N__law_once "_law_once" (defScope s__law_once) (He.ga K "_law_once") cdv A outer s0 H0 E).A (cxOf (L2.CX P w) P w K mg base N__law_once "_law_once" (defScope s__law_once) (He.ga K "_law_once") cdv A outer s0 H0 E).env (cxOf (L2.CX P w) P w K mg base N__law_once "_law_once" (defScope s__law_once) (He.ga K "_law_once") cdv A outer s0 H0 E).xe := passes_of (X := (cxOf (L2.CX P w) P w K mg base N__law_once "_law_once" (defScope s__law_once) (He.ga K "_law_once") cdv A outer s0 H0 E)) rfl
  have hu := hr.units
  exact (s_cons (s_asg (e_call (ok__law_mixed Z) hr tk rfl (a_cons (e_var (pv 0)) (a_cons e_int a_nil))) (g_name (pg_name (i := 1) sc__law_once.nd rfl (Or.inl rfl))))
    (s_cons (s_asg (e_call (ok__law_formula 12 Z) hr tk rfl (a_cons (e_call (ok__law_mixed Z) hr tk rfl (a_cons (e_var (pv 0)) (a_cons e_int a_nil))) (a_cons (e_bin o_add e_int (e_bin o_mod (e_var (pv 1)) e_int)) a_nil))) (g_name (pg_name (i := 2) sc__law_once.nd rfl (Or.inl rfl))))
    (s_cons (s_for po rfl (i_rng1 rfl Z.b_range (a_cons (e_bin o_mod (e_bin o_div (e_var (pv 1)) e_int) e_int) a_nil)) (g_name (pg_name (i := 3) sc__law_once.nd rfl (Or.inl rfl))) (s_one (s_asg (e_ix (e_lst (a_cons (e_tup (a_cons e_str (a_cons (e_var (pv 2)) a_nil))) (a_cons (e_tup (a_cons e_str (a_cons (e_tup (a_cons e_str (a_cons e_int a_nil))) (a_cons (e_var (pv 2)) a_nil)))) a_nil))) (e_bin o_mod (e_bin o_div (e_var (pv 1)) e_int) e_int)) (g_name (pg_name (i := 2) sc__law_once.nd rfl (Or.inl rfl))))))
    (s_cons (s_if (q_cmp (o_eq hu) (e_bin o_mod (e_bin o_div (e_var (pv 1)) e_int) e_int) e_int (nomark _)) (s_one (s_asg (e_call (ok__law_spoilt Z B) hr tk rfl (a_cons (e_var (pv 2)) (a_cons (e_call (ok__law_mixed Z) hr tk rfl (a_cons (e_var (pv 0)) (a_cons e_int a_nil))) (a_cons (e_bin o_mod (e_bin o_div (e_var (pv 1)) e_int) e_int) a_nil)))) (g_name (pg_name (i := 2) sc__law_once.nd rfl (Or.inl rfl))))) s_nil)
    (s_cons (s_asg (e_call (ok_is_formula Z) hr tk rfl (a_cons (e_var (pv 2)) a_nil)) (g_name (pg_name (i := 4) sc__law_once.nd rfl (Or.inl rfl))))
    (s_cons (s_if (q_w (w_or (q_not (q_val (e_callB c_isi rfl Z.b_isinstance bt_isinstance (a_cons (e_var (pv 4)) (a_cons (e_ty Z.b_bool bt_bool rfl) a_nil))))) (w_or1 (q_cmp (o_ne hu) (e_var (pv 4)) (e_call (ok__law_is 12 Z) hr tk rfl (a_cons (e_var (pv 2)) (a_cons e_int a_nil))) (nomark _))))) (s_one (s_ret e_bl)) s_nil)
    (s_cons (s_asg (e_callTy c_tup rfl Z.b_tuple bt_tuple (a_cons (e_lc (x := "k") (i := 3) rfl sc__law_once.nd (i_rng1 rfl Z.b_range (a_cons e_int a_nil)) (blkOk_by (N := N__law_once) (sc := defScope s__law_once) (by decide +kernel)) (fun _ _ _ _ _ => pg_name (i := 3) sc__law_once.nd rfl (Or.inl rfl)) (fun _ _ _ _ _ => ts_nil) (fun _ _ _ _ _ => (e_bin o_sub (e_bin o_mod (e_call (ok__law_mixed Z) hr L2.takes0 rfl (a_cons (e_var (pv 0)) (a_cons (e_bin o_add e_int (e_var (pv 3))) a_nil))) e_int) e_int))) a_nil)) (g_name (pg_name (i := 5) sc__law_once.nd rfl (Or.inl rfl))))
    (s_one (s_ret (e_or (e_not (e_var (pv 4))) (e_one (e_cmp (o_eq hu) (e_call (ok_value 12 Z) hr tk rfl (a_cons (e_var (pv 2)) (a_cons (e_var (pv 5)) a_nil))) (e_call (ok__law_value 12 Z) hr tk rfl (a_cons (e_var (pv 2)) (a_cons (e_var (pv 5)) a_nil))) (nomark _)))))))))))))
def N_law : List Str := ["script", "bent_turn", "bent_cell"]
def e1_law : Rho → Res D :=
  (bop addD (var 2) (bop mulD (con (.int 104729)) (var 1)))
def b2_law : Rho → SR :=
  (sif (notQ (tst (callD 1 d__law_once (acons (bop addD (lcD (its (var 0)) 2 yes e1_law) (mkL (acons (var 1) anil))) anil)))) (sret (con (.bl false))) sskip)
def t1_law : Rho → SR :=
  (sret (con (.bl true)))
def g_law : Rho → SR :=
  sseq (sfor (rng1 (acons (con (.int 8)) anil)) (gn 1) b2_law) (t1_law)
def d_law (ds : List D) : Res D := runB 3 g_law ds
theorem v_law {a0 : D} : d_law [a0] = finR (g_law [.z a0, .u, .u]) := runB_eq rfl
theorem sc_law : FnScope N_law ["script"] (defScope s_law) := ⟨rfl, rfl, rfl, by decide +kernel, rfl, by decide +kernel, by decide +kernel⟩
theorem law_fn (Z : Top w K mg) (B : ∀ d ∈ tfs, LamX.TabB base mg (He.cT K d).1 (He.cT K d).2) {fd : FuncData} (Fd : FunD K "law" "law" (defArgs s_law) (defBody s_law) (defScope s_law) [] [] (He.ga K "law") fd) : FnOk P w K mg base (L2.CX P w) 17 (He.ga K "law") fd ["script"] (spD K (tabT K) 1 d_law) := by
  refine fn_ok Fd sc_law rfl fun cdv A outer s0 H0 E F0 hr => ?_
  have tk : Takes (cxOf (L2.CX P w) P w K mg base N_law "law" (defScope s_law) (He.ga K "law") cdv A outer s0 H0 E) (WofE E) := takes_of rfl rfl rfl rfl
  have po : PassesOwn (model P w) (cxOf (L2.CX P w) P w K mg base N_law "law" (defScope s_law) (He.ga K "law") cdv A outer s0 H0 E).A (cxOf (L2.CX P w) P w K mg base N_law "law" (defScope s_law) (He.ga K "law") cdv A outer s0 H0 E).env (cxOf (L2.CX P w) P w K mg base N_law "law" (defScope s_law) (He.ga K "law") cdv A outer s0 H0 E).xe := passes_of (X := (cxOf (L2.CX P w) P w K mg base N_law "law" (defScope s_law) (He.ga K "law") cdv A outer s0 H0 E)) rfl
  have hu := hr.units
  exact (s_cons (s_for po rfl (i_rng1 rfl Z.b_range (a_cons e_int a_nil)) (g_name (pg_name (i := 1) sc_law.nd rfl (Or.inr rfl))) (s_one (s_if (q_not (q_val (e_call (ok__law_once Z B) hr tk rfl (a_cons (e_bin o_add (e_lc (x := "bent_cell") (i := 2) rfl sc_law.nd (i_any (e_var (pv 0))) (blkOk_by (N := N_law) (sc := defScope s_law) (by decide +kernel)) (fun _ _ _ _ _ => pg_name (i := 2) sc_law.nd rfl (Or.inl rfl)) (fun _ _ _ _ _ => ts_nil) (fun _ _ _ _ _ => (e_bin o_add (e_var (pv 2)) (e_bin o_mul e_int (e_var (pv 1)))))) (e_lst (a_cons (e_var (pv 1)) a_nil))) a_nil)))) (s_one (s_ret e_bl)) s_nil)))
    (s_one (s_ret e_bl)))
end
theorem x_drawn {n k : Int} (h : 0 ≤ k) (h2 : k < 1000) : ∃ m, d__law_drawn [.int n, .int k] = .ok (.int m) ∧ 0 ≤ m ∧ m < 2147483629 := by
  simp?! [v__law_drawn, g__law_drawn, t1__law_drawn]
  exact ⟨_, rfl, Int.emod_nonneg _ (by decide), Int.emod_lt_of_pos _ (by decide)⟩
theorem sel_mem {xs : List D} {n : Nat} (h : n < xs.length) : xs.getD n .non ∈ xs := by
  rw [List.getD_eq_getElem?_getD, List.getElem?_eq_getElem h]
  exact List.getElem_mem h
/-! the law's own numbers -/
/-! heights -/
/-! _law_ten -/
theorem rng1_eq {f : Rho → Res (List D)} {ρ : Rho} {j : Int} (h : f ρ = .ok [.int j]) (h1 : 0 ≤ j) (h2 : j < 5000) : rng1 f ρ = .ok (rngD 0 j.toNat) := by
  unfold rng1
  rw [h]
  simp only [Res.bind]
  rw [if_pos ⟨by omega, by omega⟩]
theorem rngD_len {i : Int} {n : Nat} : (rngD i n).length = n := by unfold rngD; rw [List.length_map, List.length_range]
/-! exact and what it calls -/
/-! the law's exact -/
/-! manners -/
/-! comparing, comprehensions -/
theorem comp_f {g : Tg} {t : Rho → Res Bool} {e : Rho → Res D} {ρ ρ1 : Rho} {d : D} {ds : List D} (h : g ρ d = some ρ1) (h2 : t ρ1 = .ok false) : compD g t e ρ (d :: ds) = compD g t e ρ ds := by
  rw [compD, h]
  simp only
  rw [h2]
  rfl
theorem comp_t {g : Tg} {t : Rho → Res Bool} {e : Rho → Res D} {ρ ρ1 : Rho} {d y : D} {ds ys : List D} (h : g ρ d = some ρ1) (h2 : t ρ1 = .ok true) (h3 : e ρ1 = .ok y) (h4 : compD g t e ρ ds = .ok ys) : compD g t e ρ (d :: ds) = .ok (y :: ys) := by
  rw [compD, h]
  simp only
  rw [h2]
  simp only [if_true]
  rw [h3]
  simp only
  rw [h4]
  rfl
theorem lc_eq {f : Rho → Res (List D)} {i : Nat} {t : Rho → Res Bool} {e : Rho → Res D} {ρ : Rho} {ds ys : List D} (h : f ρ = .ok ds) (hl : ds.length ≤ 1000000) (h2 : compD (gn i) t e (ρ.set i .u) ds = .ok ys) : lcD f i t e ρ = .ok (.lst ys) := by
  unfold lcD
  rw [h]
  simp only [Res.bind]
  rw [if_pos (by rw [sizeLine_eq]; omega), h2]
/-! plus, minus, times, over, less, and the law's deed -/
/-! the law's -/
/-! formulas -/
inductive Tw where | plus | minus | times
  deriving DecidableEq
def Tw.s : Tw → Str
  | .plus => "plus" | .minus => "minus" | .times => "times"
inductive Fm where | name (k : Nat) | num (n : Nat) | sign (f : Fm) | two (w : Tw) (f g : Fm)
def Fm.D : Fm → DN.D
  | .name k => .tup [.str "name", .int k]
  | .num n => .tup [.str "number", .int n]
  | .sign f => .tup [.str "sign", f.D]
  | .two w f g => .tup [.str w.s, f.D, g.D]
def Fm.dp : Fm → Nat
  | .name _ => 1
  | .num _ => 1
  | .sign f => f.dp + 1
  | .two _ f g => max f.dp g.dp + 1
def Fm.Ok : Fm → Prop
  | .name k => k < 3
  | .num n => n < 10
  | .sign f => f.Ok
  | .two _ f g => f.Ok ∧ g.Ok
theorem Fm.dp_pos (f : Fm) : 1 ≤ f.dp := by cases f <;> simp [Fm.dp]
theorem x_lformula : ∀ (fuel : Nat) (n deep : Int), 0 ≤ n → 1 ≤ deep → deep ≤ fuel → ∃ f : Fm, d__law_formula fuel [.int n, .int deep] = .ok f.D ∧ f.Ok ∧ (f.dp : Int) ≤ deep
  | 0, n, deep, h0, h1, h2 => by omega
  | fuel + 1, n, deep, h0, h1, h2 => by
    have leaf : ∃ f : Fm, bop ixD (mkL (acons (mkT (acons (con (.str "name")) (acons (bop modD (bop divD (var 0) (con (.int 7))) (con (.int 3))) anil))) (acons (mkT (acons (con (.str "number")) (acons (bop modD (bop divD (var 0) (con (.int 7))) (con (.int 10))) anil))) anil))) (bop modD (bop divD (var 0) (con (.int 64))) (con (.int 2))) [.z (.int n), .z (.int deep), .u, .u] = .ok f.D ∧ f.Ok ∧ f.dp = 1 := by
      have k1 : ∃ k : Nat, n / 7 % 3 = (k : Int) ∧ k < 3 := ⟨(n / 7 % 3).toNat, by omega, by omega⟩
      have k2 : ∃ k : Nat, n / 7 % 10 = (k : Int) ∧ k < 10 := ⟨(n / 7 % 10).toNat, by omega, by omega⟩
      obtain ⟨a, ha, ha2⟩ := k1
      obtain ⟨b, hb, hb2⟩ := k2
      by_cases q : n / 64 % 2 = 0
      · exact ⟨.name a, by simp?! [ha, hb, q]; rfl, ha2, rfl⟩
      · have q : n / 64 % 2 = 1 := by omega
        exact ⟨.num b, by simp?! [ha, hb, q]; rfl, hb2, rfl⟩
    obtain ⟨lf, l1, l2, l3⟩ := leaf
    by_cases c1 : deep = 1
    · have e1 : (deep == 1) = true := by simpa using c1
      refine ⟨lf, ?_, l2, by omega⟩
      rw [v__law_formula]
      unfold g__law_formula
      rw [sseq_def, sif_def]
      have c : orQ (tst (bop eqD (var 1) (con (.int 1)))) (tst (bop eqD (bop modD (var 0) (con (.int 7))) (con (.int 0)))) [.z (.int n), .z (.int deep), .u, .u] = .ok true := by simp?! [e1]
      rw [c, ifR_t, sret_def, l1, retR_ok, seqR_rt, finR_rt]
    · have e1 : (deep == 1) = false := by simpa using c1
      by_cases c2 : n % 7 = 0
      · have e2 : (n % 7 == 0) = true := by simpa using c2
        refine ⟨lf, ?_, l2, by omega⟩
        rw [v__law_formula]
        unfold g__law_formula
        rw [sseq_def, sif_def]
        have c : orQ (tst (bop eqD (var 1) (con (.int 1)))) (tst (bop eqD (bop modD (var 0) (con (.int 7))) (con (.int 0)))) [.z (.int n), .z (.int deep), .u, .u] = .ok true := by simp?! [e1, e2]
        rw [c, ifR_t, sret_def, l1, retR_ok, seqR_rt, finR_rt]
      · have e2 : (n % 7 == 0) = false := by simpa using c2
        obtain ⟨d1, p1, p2, _⟩ := x_drawn (n := n) (k := 1) (by omega) (by omega)
        obtain ⟨d2, q1, q2, _⟩ := x_drawn (n := n) (k := 2) (by omega) (by omega)
        obtain ⟨f, f1, f2, f3⟩ := x_lformula fuel (d1 / 4) (deep - 1) (by omega) (by omega) (by omega)
        have key : d__law_formula (fuel + 1) [.int n, .int deep] = finR (t2__law_formula (d__law_formula fuel) [.z (.int n), .z (.int deep), .z f.D, .u]) := by
          simp?! [v__law_formula, g__law_formula, t1__law_formula, e1, e2, p1, f1]
        rw [key]
        by_cases c3 : n % 7 = 1
        · have e3 : (n % 7 == 1) = true := by simpa using c3
          refine ⟨.sign f, ?_, f2, by simp only [Fm.dp]; omega⟩
          simp?! [t2__law_formula, e3]
          rfl
        · have e3 : (n % 7 == 1) = false := by simpa using c3
          have m1 : mulD (.int (n / 16 % 2)) (.int (if decide (2 < deep) = true then 1 else 0)) = some (.int (n / 16 % 2 * (if decide (2 < deep) = true then 1 else 0))) := mul_l (by omega)
          obtain ⟨dd, hdd, hd1, hd2⟩ : ∃ dd : Int, deep - 1 - n / 16 % 2 * (if decide (2 < deep) = true then 1 else 0) = dd ∧ 1 ≤ dd ∧ dd ≤ deep - 1 := by
            by_cases q : 2 < deep
            · refine ⟨_, rfl, ?_, ?_⟩
              · rw [decide_eq_true q, if_pos rfl]; omega
              · rw [decide_eq_true q, if_pos rfl]; omega
            · refine ⟨_, rfl, ?_, ?_⟩
              · rw [decide_eq_false q, if_neg (by decide)]; omega
              · rw [decide_eq_false q, if_neg (by decide)]; omega
          obtain ⟨g, g1, g2, g3⟩ := x_lformula fuel (d2 / 4) dd (by omega) (by omega) (by omega)
          have key2 : finR (t2__law_formula (d__law_formula fuel) [.z (.int n), .z (.int deep), .z f.D, .u]) = finR (t4__law_formula (d__law_formula fuel) [.z (.int n), .z (.int deep), .z f.D, .z g.D]) := by
            simp?! [t2__law_formula, t3__law_formula, e3, q1, m1, hdd, g1]
          rw [key2]
          have hw : ∃ w : Tw, finR (t4__law_formula (d__law_formula fuel) [.z (.int n), .z (.int deep), .z f.D, .z g.D]) = .ok (.tup [.str w.s, f.D, g.D]) := by
            have k : n / 8 % 3 = 0 ∨ n / 8 % 3 = 1 ∨ n / 8 % 3 = 2 := by omega
            rcases k with k | k | k
            · exact ⟨.plus, by simp?! [t4__law_formula, k]; rfl⟩
            · exact ⟨.minus, by simp?! [t4__law_formula, k]; rfl⟩
            · exact ⟨.times, by simp?! [t4__law_formula, k]; rfl⟩
          obtain ⟨w, hw⟩ := hw
          exact ⟨.two w f g, hw, ⟨f2, g2⟩, by simp only [Fm.dp]; omega⟩
/-! things -/
mutual
def tg (L : Nat) : Nat → DN.D → Bool
  | _, .non => true
  | _, .bl _ => true
  | _, .int _ => true
  | _, .str x => PyData.strOk x
  | n + 1, .lst xs => decide (xs.length ≤ L) && tgs L n xs
  | n + 1, .tup xs => decide (xs.length ≤ L) && tgs L n xs
  | _, _ => false
def tgs (L : Nat) : Nat → List DN.D → Bool
  | _, [] => true
  | n, x :: xs => tg L n x && tgs L n xs
end
mutual
theorem tg_plain {L : Nat} : ∀ (n : Nat) (d : D), tg L n d = true → DN.plain n d = true
  | _, .non, _ => by unfold DN.plain; rfl
  | _, .bl _, _ => by unfold DN.plain; rfl
  | _, .int _, _ => by unfold DN.plain; rfl
  | n, .str x, h => by
    have : PyData.strOk x = true := by cases n <;> exact h
    cases n <;> exact this
  | n, .lst xs, h => by
    cases n with
    | zero => cases h
    | succ n =>
      have h : (decide (xs.length ≤ L) && tgs L n xs) = true := h
      rw [Bool.and_eq_true] at h
      exact tgs_plain n xs h.2
  | n, .tup xs, h => by
    cases n with
    | zero => cases h
    | succ n =>
      have h : (decide (xs.length ≤ L) && tgs L n xs) = true := h
      rw [Bool.and_eq_true] at h
      exact tgs_plain n xs h.2
  | n, .fn _, h => by cases n <;> cases h
  | n, .ty _, h => by cases n <;> cases h
  | n, .dK _, h => by cases n <;> cases h
  | n, .dT _, h => by cases n <;> cases h
  | n, .arr _, h => by cases n <;> cases h
  | n, .pro _, h => by cases n <;> cases h
theorem tgs_plain {L : Nat} : ∀ (n : Nat) (ds : List D), tgs L n ds = true → DN.plains n ds = true
  | _, [], _ => by unfold DN.plains; rfl
  | n, d :: ds, h => by
    have h : (tg L n d && tgs L n ds) = true := h
    rw [Bool.and_eq_true] at h
    show (DN.plain n d && DN.plains n ds) = true
    rw [tg_plain n d h.1, tgs_plain n ds h.2]
    rfl
end
theorem tgs_mem {L n : Nat} : ∀ {ds : List D}, tgs L n ds = true ↔ ∀ d ∈ ds, tg L n d = true
  | [] => by unfold tgs; simp
  | d :: ds => by
    show (tg L n d && tgs L n ds) = true ↔ _
    rw [Bool.and_eq_true, tgs_mem (ds := ds)]
    simp
theorem tg_tup {L n : Nat} {ds : List D} : tg L (n + 1) (.tup ds) = true ↔ ds.length ≤ L ∧ ∀ d ∈ ds, tg L n d = true := by
  show (decide (ds.length ≤ L) && tgs L n ds) = true ↔ _
  rw [Bool.and_eq_true, decide_eq_true_eq, tgs_mem]
theorem tg_lst {L n : Nat} {ds : List D} : tg L (n + 1) (.lst ds) = true ↔ ds.length ≤ L ∧ ∀ d ∈ ds, tg L n d = true := by
  show (decide (ds.length ≤ L) && tgs L n ds) = true ↔ _
  rw [Bool.and_eq_true, decide_eq_true_eq, tgs_mem]
mutual
theorem tg_up {L M : Nat} (hL : L ≤ M) : ∀ (n m : Nat) (d : D), n ≤ m → tg L n d = true → tg M m d = true
  | _, _, .non, _, _ => by unfold tg; rfl
  | _, _, .bl _, _, _ => by unfold tg; rfl
  | _, _, .int _, _, _ => by unfold tg; rfl
  | n, m, .str x, _, h => by
    have : PyData.strOk x = true := by cases n <;> exact h
    cases m <;> exact this
  | n, m, .lst xs, hm, h => by
    cases n with
    | zero => cases h
    | succ n =>
      cases m with
      | zero => omega
      | succ m =>
        rw [tg_lst] at h ⊢
        exact ⟨by omega, tgs_mem.mp (tgs_up hL n m xs (by omega) (tgs_mem.mpr h.2))⟩
  | n, m, .tup xs, hm, h => by
    cases n with
    | zero => cases h
    | succ n =>
      cases m with
      | zero => omega
      | succ m =>
        rw [tg_tup] at h ⊢
        exact ⟨by omega, tgs_mem.mp (tgs_up hL n m xs (by omega) (tgs_mem.mpr h.2))⟩
  | n, _, .fn _, _, h => by cases n <;> cases h
  | n, _, .ty _, _, h => by cases n <;> cases h
  | n, _, .dK _, _, h => by cases n <;> cases h
  | n, _, .dT _, _, h => by cases n <;> cases h
  | n, _, .arr _, _, h => by cases n <;> cases h
  | n, _, .pro _, _, h => by cases n <;> cases h
theorem tgs_up {L M : Nat} (hL : L ≤ M) : ∀ (n m : Nat) (ds : List D), n ≤ m → tgs L n ds = true → tgs M m ds = true
  | _, _, [], _, _ => by unfold tgs; rfl
  | n, m, d :: ds, hm, h => by
    have h : (tg L n d && tgs L n ds) = true := h
    rw [Bool.and_eq_true] at h
    show (tg M m d && tgs M m ds) = true
    rw [tg_up hL n m d hm h.1, tgs_up hL n m ds hm h.2]
    rfl
end
theorem fm_tg : ∀ (f : Fm), tg 3 f.dp f.D = true
  | .name k => by
    show tg 3 1 (.tup [.str "name", .int k]) = true
    exact tg_tup.mpr ⟨by simp, by simp; exact ⟨(by decide +kernel : PyData.strOk (Str.ofString "name") = true), rfl⟩⟩
  | .num n => by
    show tg 3 1 (.tup [.str "number", .int n]) = true
    exact tg_tup.mpr ⟨by simp, by simp; exact ⟨(by decide +kernel : PyData.strOk (Str.ofString "number") = true), rfl⟩⟩
  | .sign f => by
    have h := fm_tg f
    show tg 3 (f.dp + 1) (.tup [.str "sign", f.D]) = true
    refine tg_tup.mpr ⟨by simp, fun d hd => ?_⟩
    simp at hd
    rcases hd with rfl | rfl
    · have : PyData.strOk (Str.ofString "sign") = true := by decide +kernel
      cases f.dp <;> exact this
    · exact h
  | .two w f g => by
    have h1 := fm_tg f
    have h2 := fm_tg g
    show tg 3 (max f.dp g.dp + 1) (.tup [.str w.s, f.D, g.D]) = true
    refine tg_tup.mpr ⟨by simp, fun d hd => ?_⟩
    simp at hd
    rcases hd with rfl | rfl | rfl
    · have : PyData.strOk w.s = true := by cases w <;> decide +kernel
      cases max f.dp g.dp <;> exact this
    · exact tg_up (Nat.le_refl 3) _ _ _ (by omega) h1
    · exact tg_up (Nat.le_refl 3) _ _ _ (by omega) h2
/-! plain data, deeper -/
mutual
theorem plain_up : ∀ (n m : Nat) (d : D), n ≤ m → DN.plain n d = true → DN.plain m d = true
  | _, _, .non, _, _ => by unfold DN.plain; rfl
  | _, _, .bl _, _, _ => by unfold DN.plain; rfl
  | _, _, .int _, _, _ => by unfold DN.plain; rfl
  | n, m, .str x, _, h => by
    have : PyData.strOk x = true := by cases n <;> exact h
    cases m <;> exact this
  | n, m, .lst xs, hm, h => by
    cases n with
    | zero => cases h
    | succ n =>
      cases m with
      | zero => omega
      | succ m => exact plains_up n m xs (by omega) h
  | n, m, .tup xs, hm, h => by
    cases n with
    | zero => cases h
    | succ n =>
      cases m with
      | zero => omega
      | succ m => exact plains_up n m xs (by omega) h
  | n, _, .fn _, _, h => by cases n <;> cases h
  | n, _, .ty _, _, h => by cases n <;> cases h
  | n, _, .dK _, _, h => by cases n <;> cases h
  | n, _, .dT _, _, h => by cases n <;> cases h
  | n, _, .arr _, _, h => by cases n <;> cases h
  | n, _, .pro _, _, h => by cases n <;> cases h
theorem plains_up : ∀ (n m : Nat) (ds : List D), n ≤ m → DN.plains n ds = true → DN.plains m ds = true
  | _, _, [], _, _ => by unfold DN.plains; rfl
  | n, m, d :: ds, hm, h => by
    have h : (DN.plain n d && DN.plains n ds) = true := h
    rw [Bool.and_eq_true] at h
    show (DN.plain m d && DN.plains m ds) = true
    rw [plain_up n m d hm h.1, plains_up n m ds hm h.2]
    rfl
end
/-! is_formula -/
def isI : DN.D → Int → Bool
  | .int i, m => decide (0 ≤ i) && decide (i ≤ m)
  | _, _ => false
def fB : Nat → DN.D → Bool
  | 0, _ => false
  | n + 1, .tup (.str w :: a :: r) =>
    if (w == Str.ofString "name") = true then r.isEmpty && isI a 2
    else if (w == Str.ofString "number") = true then r.isEmpty && isI a 9
    else if (w == Str.ofString "sign") = true then r.isEmpty && fB n a
    else if (["plus", "minus", "times"] : List Str).contains w = true then decide (r.length = 1) && ((a :: r).all (fB n))
    else false
  | _ + 1, _ => false
theorem kt_n : kitB "NoneType" "tuple" = some false := by decide +kernel
theorem kt_b : kitB "bool" "tuple" = some false := by decide +kernel
theorem kt_i : kitB "int" "tuple" = some false := by decide +kernel
theorem kt_s : kitB "str" "tuple" = some false := by decide +kernel
theorem kt_l : kitB "list" "tuple" = some false := by decide +kernel
theorem kt_t : kitB "tuple" "tuple" = some true := by decide +kernel
theorem ks_n : kitB "NoneType" "str" = some false := by decide +kernel
theorem ks_b : kitB "bool" "str" = some false := by decide +kernel
theorem ks_i : kitB "int" "str" = some false := by decide +kernel
theorem ks_s : kitB "str" "str" = some true := by decide +kernel
theorem ks_l : kitB "list" "str" = some false := by decide +kernel
theorem ks_t : kitB "tuple" "str" = some false := by decide +kernel
theorem ki_n : kitB "NoneType" "int" = some false := by decide +kernel
theorem ki_b : kitB "bool" "int" = some true := by decide +kernel
theorem ki_i : kitB "int" "int" = some true := by decide +kernel
theorem ki_s : kitB "str" "int" = some false := by decide +kernel
theorem ki_l : kitB "list" "int" = some false := by decide +kernel
theorem ki_t : kitB "tuple" "int" = some false := by decide +kernel
theorem kb_b : kitB "bool" "bool" = some true := by decide +kernel
theorem kb_i : kitB "int" "bool" = some false := by decide +kernel
theorem x_isfrom {L n : Nat} {y : D} {m : Int} (h : tg L n y = true) : d_is_from [y, .int m] = .ok (.bl (isI y m)) := by
  cases y with
  | non => simp?! [v_is_from, g_is_from, isi_n ki_n]; rfl
  | bl b => simp?! [v_is_from, g_is_from, isi_b ki_b, isi_b kb_b]; rfl
  | int i => simp?! [v_is_from, g_is_from, isi_i ki_i, isi_i kb_i]; rfl
  | str x => simp?! [v_is_from, g_is_from, isi_s ki_s]; rfl
  | lst xs => simp?! [v_is_from, g_is_from, isi_l ki_l]; rfl
  | tup xs => simp?! [v_is_from, g_is_from, isi_t ki_t]; rfl
  | _ => cases n <;> cases h
theorem sl_1 {x : D} {r : List D} : slD (.tup (x :: r)) (some 1) none = some (.tup r) := by
  show some (D.tup (DN.cutD (x :: r) (some 1) none)) = _
  unfold DN.cutD
  rw [HT.sIx_none, show HT.sIx (x :: r).length 0 (some 1) = min 1 (x :: r).length from HT.sIx_nat _ _ 1]
  rw [Nat.min_eq_left (by simp)]
  congr 2
  exact List.take_of_length_le (by simp)
theorem allB_map {α : Type} (p : α → Bool) : ∀ ds : List α, DN.allB (ds.map fun d => D.bl (p d)) = some (ds.map p)
  | [] => rfl
  | d :: ds => by
    show (DN.allB (ds.map fun d => D.bl (p d))).map (p d :: ·) = _
    rw [allB_map p ds]
    rfl
theorem all_bl {α : Type} (p : α → Bool) (ds : List α) : allD [.lst (ds.map fun d => D.bl (p d))] = some (.bl (ds.all p)) := by
  show (DN.allB (ds.map fun d => D.bl (p d))).map _ = _
  rw [allB_map]
  simp
theorem comp_bl {i : Nat} {e : Rho → Res D} {ρ : Rho} {p : D → Bool} : ∀ (ds : List D), (∀ d ∈ ds, e (ρ.set i (.z d)) = .ok (.bl (p d))) → compD (gn i) yes e ρ ds = .ok (ds.map fun d => D.bl (p d))
  | [], _ => rfl
  | d :: ds, h => comp_t (show gn i ρ d = some (ρ.set i (.z d)) from rfl) rfl (h d List.mem_cons_self) (comp_bl ds fun x hx => h x (List.mem_cons_of_mem _ hx))
theorem comp_ft {i : Nat} {t : Rho → Res Bool} {e : Rho → Res D} {ρ : Rho} {p : D → Bool} : ∀ (ds : List D), (∀ d ∈ ds, t (ρ.set i (.z d)) = .ok (p d) ∧ e (ρ.set i (.z d)) = .ok d) → compD (gn i) t e ρ ds = .ok (ds.filter p)
  | [], _ => rfl
  | d :: ds, h => by
    obtain ⟨h1, h2⟩ := h d List.mem_cons_self
    have ih := comp_ft (i := i) (t := t) (e := e) (ρ := ρ) (p := p) ds fun x hx => h x (List.mem_cons_of_mem _ hx)
    cases q : p d with
    | true =>
      rw [q] at h1
      rw [comp_t (show gn i ρ d = some (ρ.set i (.z d)) from rfl) h1 h2 ih, List.filter_cons, if_pos q]
    | false =>
      rw [q] at h1
      rw [comp_f (show gn i ρ d = some (ρ.set i (.z d)) from rfl) h1, ih, List.filter_cons, if_neg (by rw [q]; decide)]
theorem its_tup {f : Rho → Res D} {ds : List D} {ρ : Rho} (h : f ρ = .ok (.tup ds)) : its f ρ = .ok ds := by
  unfold its
  rw [h]
  rfl
theorem seq2 {x y : D} {r : List D} : ((((x :: y :: r).length : Nat) : Int) == 2) = r.isEmpty := by
  cases r with
  | nil => rfl
  | cons a r =>
    show _ = false
    rw [beq_eq_false_iff_ne]
    simp only [List.length_cons]
    omega
theorem seq3 {x y : D} {r : List D} : ((((x :: y :: r).length : Nat) : Int) == 3) = decide (r.length = 1) := by
  rw [Bool.eq_iff_iff, beq_iff_eq, decide_eq_true_eq]
  simp only [List.length_cons]
  omega
theorem x_formto : ∀ (n fuel : Nat) (d : D) (L k : Nat), n < fuel → L ≤ 100 → tg L k d = true → d_is_formula_to fuel [d, .int (n : Int)] = .ok (.bl (fB n d))
  | 0, fuel + 1, d, L, k, _, _, _ => by
    have e0 : ((((0 : Nat) : Int)) == 0) = true := rfl
    have : fB 0 d = false := by unfold fB; rfl
    rw [this]
    simp?! [v_is_formula_to, g_is_formula_to, e0]
  | n + 1, fuel + 1, d, L, k, hf, hL, h => by
    have e0 : ((((n + 1 : Nat) : Int)) == 0) = false := by rw [beq_eq_false_iff_ne]; omega
    have e1 : (((n + 1 : Nat) : Int)) - 1 = (n : Int) := by omega
    have no : ∀ (he : fB (n + 1) d = false) (ht : isiD [d, .ty "tuple"] = some (.bl false)), d_is_formula_to (fuel + 1) [d, .int ((n + 1 : Nat) : Int)] = .ok (.bl (fB (n + 1) d)) := by
      intro he ht
      rw [he]
      simp?! [v_is_formula_to, g_is_formula_to, e0, ht]
    cases d with
    | non => exact no rfl (isi_n kt_n)
    | bl b => exact no rfl (isi_b kt_b)
    | int i => exact no rfl (isi_i kt_i)
    | str x => exact no rfl (isi_s kt_s)
    | lst xs => exact no rfl (isi_l kt_l)
    | tup ds =>
      cases k with
      | zero => cases h
      | succ k =>
        rw [tg_tup] at h
        match ds, h with
        | [], _ =>
          have l0 : decide ((([] : List D).length : Int) < 2) = true := rfl
          simp?! [v_is_formula_to, g_is_formula_to, e0, isi_t kt_t, l0]
          rfl
        | [x], _ =>
          have l0 : decide ((([x] : List D).length : Int) < 2) = true := rfl
          simp?! [v_is_formula_to, g_is_formula_to, e0, isi_t kt_t, l0]
          cases x <;> rfl
        | x :: y :: r, h =>
          have l0 : decide (((x :: y :: r).length : Int) < 2) = false := decide_eq_false (by simp only [List.length_cons]; omega)
          have hy := h.2 y (by simp)
          have no2 : ∀ (he : fB (n + 1) (.tup (x :: y :: r)) = false) (ht : isiD [x, .ty "str"] = some (.bl false)), d_is_formula_to (fuel + 1) [.tup (x :: y :: r), .int ((n + 1 : Nat) : Int)] = .ok (.bl (fB (n + 1) (.tup (x :: y :: r)))) := by
            intro he ht
            rw [he]
            simp?! [v_is_formula_to, g_is_formula_to, e0, isi_t kt_t, l0, ht]
          have hx := h.2 x (by simp)
          cases x with
          | non => exact no2 rfl (isi_n ks_n)
          | bl b => exact no2 rfl (isi_b ks_b)
          | int i => exact no2 rfl (isi_i ks_i)
          | lst xs => exact no2 rfl (isi_l ks_l)
          | tup xs => exact no2 rfl (isi_t ks_t)
          | str w =>
            have ih := fun z (hz : z ∈ y :: r) => x_formto n fuel z L k (by omega) hL (h.2 z (List.mem_cons_of_mem _ hz))
            have key : d_is_formula_to (fuel + 1) [.tup (.str w :: y :: r), .int ((n + 1 : Nat) : Int)] = finR (t1_is_formula_to (d_is_formula_to fuel) [.z (.tup (.str w :: y :: r)), .z (.int ((n + 1 : Nat) : Int)), .u]) := by
              simp?! [v_is_formula_to, g_is_formula_to, e0, isi_t kt_t, l0, isi_s ks_s]
            rw [key]
            show _ = Res.ok (D.bl (if (w == Str.ofString "name") = true then r.isEmpty && isI y 2
              else if (w == Str.ofString "number") = true then r.isEmpty && isI y 9
              else if (w == Str.ofString "sign") = true then r.isEmpty && fB n y
              else if (["plus", "minus", "times"] : List Str).contains w = true then decide (r.length = 1) && ((y :: r).all (fB n))
              else false))
            cases c1 : (w == Str.ofString "name") with
            | true =>
              rw [if_pos rfl]
              have l3 : lenD [.str "abc"] = some (.int 3) := by kernel_rfl
              have z31 : (3 : Int) - 1 = 2 := rfl
              cases hr : r.isEmpty with
              | true => simp?! [t1_is_formula_to, c1, seq2, hr, l3, z31, x_isfrom hy]; rfl
              | false => simp?! [t1_is_formula_to, c1, seq2, hr]; rfl
            | false =>
              rw [if_neg (by decide)]
              cases c2 : (w == Str.ofString "number") with
              | true =>
                rw [if_pos rfl]
                cases hr : r.isEmpty with
                | true => simp?! [t1_is_formula_to, t2_is_formula_to, c1, c2, seq2, hr, x_isfrom hy]; rfl
                | false => simp?! [t1_is_formula_to, t2_is_formula_to, c1, c2, seq2, hr]; rfl
              | false =>
                rw [if_neg (by decide)]
                cases c3 : (w == Str.ofString "sign") with
                | true =>
                  rw [if_pos rfl]
                  cases hr : r.isEmpty with
                  | true => simp?! [t1_is_formula_to, t2_is_formula_to, t3_is_formula_to, c1, c2, c3, seq2, hr, e1, ih y (by simp)]; rfl
                  | false => simp?! [t1_is_formula_to, t2_is_formula_to, t3_is_formula_to, c1, c2, c3, seq2, hr]; rfl
                | false =>
                  rw [if_neg (by decide)]
                  have nt : niT ["plus", "minus", "times"] (bop ixD (var 0) (con (.int 0))) [.z (.tup (.str w :: y :: r)), .z (.int ((n + 1 : Nat) : Int)), .u] = .ok (.bl (!(["plus", "minus", "times"] : List Str).contains w)) := by
                    unfold niT
                    simp?! []
                    rfl
                  cases c4 : (["plus", "minus", "times"] : List Str).contains w with
                  | false =>
                    rw [c4] at nt
                    rw [if_neg (by decide)]
                    simp?! [t1_is_formula_to, t2_is_formula_to, t3_is_formula_to, t4_is_formula_to, c1, c2, c3, nt]
                  | true =>
                    rw [c4] at nt
                    rw [if_pos rfl]
                    cases hr : decide (r.length = 1) with
                    | false => simp?! [t1_is_formula_to, t2_is_formula_to, t3_is_formula_to, t4_is_formula_to, c1, c2, c3, nt, seq3, hr]; rfl
                    | true =>
                      have it := its_tup (f := slc (var 0) (psm (con (.int 1))) pno) (ds := y :: r) (ρ := [.z (.tup (.str w :: y :: r)), .z (.int ((n + 1 : Nat) : Int)), .u]) (by simp?! [sl_1])
                      have lc := lc_eq (i := 2) (t := yes) (e := e1_is_formula_to (d_is_formula_to fuel)) it (by have := h.1; simp only [List.length_cons] at this ⊢; omega) (comp_bl (p := fB n) (y :: r) (fun z hz => by
                        show e1_is_formula_to (d_is_formula_to fuel) [.z (.tup (.str w :: y :: r)), .z (.int ((n + 1 : Nat) : Int)), .z z] = _
                        simp?! [e1_is_formula_to, e1, ih z hz]))
                      simp?! [t1_is_formula_to, t2_is_formula_to, t3_is_formula_to, t4_is_formula_to, t5_is_formula_to, c1, c2, c3, nt, seq3, hr, lc, all_bl]
                      rfl
          | _ => cases k <;> cases hx
    | _ => cases k <;> cases h
theorem x_isform {d : D} {L k : Nat} (hL : L ≤ 100) (h : tg L k d = true) : d_is_formula [d] = .ok (.bl (fB 8 d)) := by
  have := x_formto 8 12 d L k (by decide) hL h
  have t : d_is_formula_to 12 [d, .int 8] = .ok (.bl (fB 8 d)) := this
  simp?! [v_is_formula, g_is_formula, t]
/-- a formula is told -/
theorem fB_fm : ∀ (n : Nat) (d : D), fB n d = true → ∃ f : Fm, d = f.D ∧ f.Ok ∧ f.dp ≤ n
  | 0, d, h => by unfold fB at h; cases h
  | n + 1, d, h => by
    unfold fB at h
    split at h
    · rename_i hn; cases hn
    · rename_i n' w y r hn
      cases hn
      have key : ∀ m : Int, isI y m = true → ∃ i : Nat, y = .int i ∧ (i : Int) ≤ m := by
        intro m hm
        cases y with
        | int i =>
          have hm : (decide (0 ≤ i) && decide (i ≤ m)) = true := hm
          rw [Bool.and_eq_true, decide_eq_true_eq, decide_eq_true_eq] at hm
          exact ⟨i.toNat, by congr 1; omega, by omega⟩
        | _ => cases hm
      split at h
      · rename_i c
        rw [Bool.and_eq_true] at h
        obtain ⟨i, rfl, hi⟩ := key 2 h.2
        have r0 : r = [] := List.isEmpty_iff.mp h.1
        subst r0
        have cw : w = Str.ofString "name" := eq_of_beq c
        subst cw
        exact ⟨.name i, rfl, by show i < 3; omega, by simp [Fm.dp]⟩
      · split at h
        · rename_i c
          rw [Bool.and_eq_true] at h
          obtain ⟨i, rfl, hi⟩ := key 9 h.2
          have r0 : r = [] := List.isEmpty_iff.mp h.1
          subst r0
          have cw : w = Str.ofString "number" := eq_of_beq c
          subst cw
          exact ⟨.num i, rfl, by show i < 10; omega, by simp [Fm.dp]⟩
        · split at h
          · rename_i c
            rw [Bool.and_eq_true] at h
            have r0 : r = [] := List.isEmpty_iff.mp h.1
            subst r0
            have cw : w = Str.ofString "sign" := eq_of_beq c
            subst cw
            obtain ⟨f, rfl, f1, f2⟩ := fB_fm n y h.2
            exact ⟨.sign f, rfl, f1, by simp only [Fm.dp]; omega⟩
          · split at h
            · rename_i c
              rw [Bool.and_eq_true, decide_eq_true_eq] at h
              match r, h with
              | [z], h =>
                have ha := h.2
                simp only [List.all_cons, List.all_nil, Bool.and_true, Bool.and_eq_true] at ha
                obtain ⟨f, rfl, f1, f2⟩ := fB_fm n y ha.1
                obtain ⟨g, rfl, g1, g2⟩ := fB_fm n z ha.2
                have cw : ∃ tw : Tw, w = tw.s := by
                  simp at c
                  rcases c with rfl | rfl | rfl
                  · exact ⟨.plus, rfl⟩
                  · exact ⟨.minus, rfl⟩
                  · exact ⟨.times, rfl⟩
                obtain ⟨tw, rfl⟩ := cw
                exact ⟨.two tw f g, rfl, ⟨f1, g1⟩, by simp only [Fm.dp]; omega⟩
              | [], h => simp at h
              | _ :: _ :: _, h => simp at h
            · cases h
    · cases h
/-! the law's is -/
theorem eqds_nil' : ∀ (xs : List D), DN.eqds xs [] = xs.isEmpty
  | [] => rfl
  | _ :: _ => rfl
theorem filt_not {p : D → Bool} : ∀ (ds : List D), (ds.filter fun d => !p d).isEmpty = ds.all p
  | [] => rfl
  | d :: ds => by
    rw [List.filter_cons, List.all_cons]
    cases q : p d with
    | true => simp [filt_not ds]
    | false => simp
theorem x_lis : ∀ (n fuel : Nat) (d : D) (L k : Nat), n < fuel → L ≤ 100 → k ≤ 50 → tg L k d = true → d__law_is fuel [d, .int (n : Int)] = .ok (.bl (fB n d))
  | 0, fuel + 1, d, L, k, _, _, _, _ => by
    have e0 : ((((0 : Nat) : Int)) == 0) = true := rfl
    have : fB 0 d = false := by unfold fB; rfl
    rw [this]
    simp?! [v__law_is, g__law_is, e0]
  | n + 1, fuel + 1, d, L, k, hf, hL, hk, h => by
    have e0 : ((((n + 1 : Nat) : Int)) == 0) = false := by rw [beq_eq_false_iff_ne]; omega
    have e1 : (((n + 1 : Nat) : Int)) - 1 = (n : Int) := by omega
    have no : ∀ (he : fB (n + 1) d = false) (ht : isiD [d, .ty "tuple"] = some (.bl false)), d__law_is (fuel + 1) [d, .int ((n + 1 : Nat) : Int)] = .ok (.bl (fB (n + 1) d)) := by
      intro he ht
      rw [he]
      simp?! [v__law_is, g__law_is, e0, ht]
    cases d with
    | non => exact no rfl (isi_n kt_n)
    | bl b => exact no rfl (isi_b kt_b)
    | int i => exact no rfl (isi_i kt_i)
    | str x => exact no rfl (isi_s kt_s)
    | lst xs => exact no rfl (isi_l kt_l)
    | tup ds =>
      cases k with
      | zero => cases h
      | succ k =>
        rw [tg_tup] at h
        match ds, h with
        | [], _ =>
          have l0 : decide ((([] : List D).length : Int) < 2) = true := rfl
          simp?! [v__law_is, g__law_is, e0, isi_t kt_t, l0]
          rfl
        | [x], _ =>
          have l0 : decide ((([x] : List D).length : Int) < 2) = true := rfl
          simp?! [v__law_is, g__law_is, e0, isi_t kt_t, l0]
          cases x <;> rfl
        | x :: y :: r, h =>
          have l0 : decide (((x :: y :: r).length : Int) < 2) = false := decide_eq_false (by simp only [List.length_cons]; omega)
          have hy := h.2 y (by simp)
          have no2 : ∀ (he : fB (n + 1) (.tup (x :: y :: r)) = false) (ht : isiD [x, .ty "str"] = some (.bl false)), d__law_is (fuel + 1) [.tup (x :: y :: r), .int ((n + 1 : Nat) : Int)] = .ok (.bl (fB (n + 1) (.tup (x :: y :: r)))) := by
            intro he ht
            rw [he]
            simp?! [v__law_is, g__law_is, e0, isi_t kt_t, l0, ht]
          have hx := h.2 x (by simp)
          cases x with
          | non => exact no2 rfl (isi_n ks_n)
          | bl b => exact no2 rfl (isi_b ks_b)
          | int i => exact no2 rfl (isi_i ks_i)
          | lst xs => exact no2 rfl (isi_l ks_l)
          | tup xs => exact no2 rfl (isi_t ks_t)
          | str w =>
            have ih := fun z (hz : z ∈ y :: r) => x_lis n fuel z L k (by omega) hL (by omega) (h.2 z (List.mem_cons_of_mem _ hz))
            have key : d__law_is (fuel + 1) [.tup (.str w :: y :: r), .int ((n + 1 : Nat) : Int)] = finR (t1__law_is (d__law_is fuel) [.z (.tup (.str w :: y :: r)), .z (.int ((n + 1 : Nat) : Int)), .u, .u, .u, .u]) := by
              simp?! [v__law_is, g__law_is, e0, isi_t kt_t, l0, isi_s ks_s]
            rw [key]
            show _ = Res.ok (D.bl (if (w == Str.ofString "name") = true then r.isEmpty && isI y 2
              else if (w == Str.ofString "number") = true then r.isEmpty && isI y 9
              else if (w == Str.ofString "sign") = true then r.isEmpty && fB n y
              else if (["plus", "minus", "times"] : List Str).contains w = true then decide (r.length = 1) && ((y :: r).all (fB n))
              else false))
            have inn : inD (.str w) (.tup [.str "name", .str "number"]) = some (.bl ((w == Str.ofString "name") || (w == Str.ofString "number"))) := by
              show some (D.bl (([.str "name", .str "number"] : List D).any fun z => DN.eqd z (.str w))) = _
              have s1 : ∀ a b : Str, (a == b) = (b == a) := fun a b => by rw [Bool.eq_iff_iff, beq_iff_eq, beq_iff_eq]; exact eq_comm
              simp only [List.any_cons, List.any_nil, Bool.or_false, DN.eqd]
              rw [s1 (Str.ofString "name") w, s1 (Str.ofString "number") w]
            -- a leaf, up to m
            have leaf : ∀ (m : Int) (nb : Bool), (w == Str.ofString "number") = nb → ((w == Str.ofString "name") || nb) = true → m = (if nb = true then 9 else 2) → finR (t1__law_is (d__law_is fuel) [.z (.tup (.str w :: y :: r)), .z (.int ((n + 1 : Nat) : Int)), .u, .u, .u, .u]) = .ok (.bl (r.isEmpty && isI y m)) := by
              intro m nb hnb ho hm
              rw [hnb, ho] at inn
              have mm : ixD (.lst [.int 2, .int 9]) (.int (if nb = true then 1 else 0)) = some (.int m) := by
                subst hm
                cases nb <;> rfl
              cases hr : r.isEmpty with
              | false =>
                cases y with
                | non => simp?! [t1__law_is, inn, hnb, mm, isi_n ki_n, seq2, hr]; rfl
                | bl b => simp?! [t1__law_is, inn, hnb, mm, isi_b ki_b, isi_b kb_b, seq2, hr]; rfl
                | int i => simp?! [t1__law_is, inn, hnb, mm, isi_i ki_i, isi_i kb_i, seq2, hr]; rfl
                | str z => simp?! [t1__law_is, inn, hnb, mm, isi_s ki_s, seq2, hr]; rfl
                | lst z => simp?! [t1__law_is, inn, hnb, mm, isi_l ki_l, seq2, hr]; rfl
                | tup z => simp?! [t1__law_is, inn, hnb, mm, isi_t ki_t, seq2, hr]; rfl
                | _ => cases k <;> cases hy
              | true =>
                cases y with
                | non => simp?! [t1__law_is, inn, hnb, mm, isi_n ki_n, seq2, hr]; rfl
                | bl b => simp?! [t1__law_is, inn, hnb, mm, isi_b ki_b, isi_b kb_b, seq2, hr]; rfl
                | int i => simp?! [t1__law_is, inn, hnb, mm, isi_i ki_i, isi_i kb_i, seq2, hr]; rfl
                | str z => simp?! [t1__law_is, inn, hnb, mm, isi_s ki_s, seq2, hr]; rfl
                | lst z => simp?! [t1__law_is, inn, hnb, mm, isi_l ki_l, seq2, hr]; rfl
                | tup z => simp?! [t1__law_is, inn, hnb, mm, isi_t ki_t, seq2, hr]; rfl
                | _ => cases k <;> cases hy
            cases c1 : (w == Str.ofString "name") with
            | true =>
              have c2 : (w == Str.ofString "number") = false := by
                have : w = Str.ofString "name" := eq_of_beq c1
                rw [this]
                decide +kernel
              rw [if_pos rfl]
              exact leaf 2 false c2 (by rw [c1]; rfl) rfl
            | false =>
              rw [if_neg (by decide)]
              cases c2 : (w == Str.ofString "number") with
              | true =>
                rw [if_pos rfl]
                exact leaf 9 true c2 (by simp) rfl
              | false =>
                rw [if_neg (by decide)]
                rw [c1, c2] at inn
                -- the parts
                obtain ⟨many, hm⟩ : ∃ many : Int, ∀ ρ : Rho, var 0 ρ = .ok (.tup (.str w :: y :: r)) → dgetD ["sign", "plus", "minus", "times"] (acons (con (.int 2)) (acons (con (.int 3)) (acons (con (.int 3)) (acons (con (.int 3)) anil)))) (bop ixD (var 0) (con (.int 0))) (con (.int 0)) ρ = .ok (.int many) ∧ many = (if (w == Str.ofString "sign") = true then 2 else if (["plus", "minus", "times"] : List Str).contains w = true then 3 else 0) := by
                  refine ⟨_, fun ρ hρ => ⟨?_, rfl⟩⟩
                  have hw : bop ixD (var 0) (con (.int 0)) ρ = .ok (.str w) := by rw [bin_def, hρ, con_def, app2_ok, ix_t0]; rfl
                  unfold dgetD
                  rw [hw]
                  show Res.ok (((([("sign" : Str), "plus", "minus", "times"] : List Str).zip [D.int 2, .int 3, .int 3, .int 3]).lookup w).getD (.int 0)) = _
                  cases c3 : (w == Str.ofString "sign") with
                  | true =>
                    have : w = Str.ofString "sign" := eq_of_beq c3
                    subst this
                    rfl
                  | false =>
                    rw [if_neg (by decide)]
                    cases c4 : (["plus", "minus", "times"] : List Str).contains w with
                    | true =>
                      rw [if_pos rfl]
                      simp at c4
                      rcases c4 with rfl | rfl | rfl <;> rfl
                    | false =>
                      rw [if_neg (by decide)]
                      simp at c4
                      have n1 : (w == Str.ofString "plus") = false := by rw [beq_eq_false_iff_ne]; exact c4.1
                      have n2 : (w == Str.ofString "minus") = false := by rw [beq_eq_false_iff_ne]; exact c4.2.1
                      have n3 : (w == Str.ofString "times") = false := by rw [beq_eq_false_iff_ne]; exact c4.2.2
                      simp only [List.zip_cons_cons, List.zip_nil_right, List.lookup_cons, c3, n1, n2, n3, List.lookup_nil]
                      rfl
                obtain ⟨hm1, hm2⟩ := hm [.z (.tup (.str w :: y :: r)), .z (.int ((n + 1 : Nat) : Int)), .u, .u, .u, .u] rfl
                have it := its_tup (f := slc (var 0) (psm (con (.int 1))) pno) (ds := y :: r) (ρ := [.z (.tup (.str w :: y :: r)), .z (.int ((n + 1 : Nat) : Int)), .u, .u, .z (.int many), .u]) (by simp?! [sl_1])
                have lc := lc_eq (i := 5) (t := notQ (tst (callD 2 (d__law_is fuel) (acons (var 5) (acons (bop subD (var 1) (con (.int 1))) anil))))) (e := e1__law_is (d__law_is fuel)) it (by have := h.1; simp only [List.length_cons] at this ⊢; omega) (comp_ft (p := fun z => !fB n z) (y :: r) (fun z hz => by
                  refine ⟨?_, rfl⟩
                  show notQ (tst (callD 2 (d__law_is fuel) (acons (var 5) (acons (bop subD (var 1) (con (.int 1))) anil)))) [.z (.tup (.str w :: y :: r)), .z (.int ((n + 1 : Nat) : Int)), .u, .u, .z (.int many), .z z] = _
                  simp?! [e1, ih z hz]))
                have eqN : eqD (.lst ((y :: r).filter fun z => !fB n z)) (.lst []) = some (.bl ((y :: r).all (fB n))) := by
                  unfold eqD eqOk
                  have p0 : DN.plains k ((y :: r).filter fun z => !fB n z) = true := tgs_plain (L := L) k _ (tgs_mem.mpr fun z hz => h.2 z (List.mem_cons_of_mem _ (List.mem_filter.mp hz).1))
                  have p1 : DN.plain 64 (.lst ((y :: r).filter fun z => !fB n z)) = true := plains_up k 63 _ (by omega) p0
                  have p2 : DN.plain 64 (.lst []) = true := rfl
                  rw [p1, p2, Bool.and_self, Bool.or_true, if_pos rfl]
                  show some (D.bl (DN.eqds ((y :: r).filter fun z => !fB n z) [])) = _
                  rw [eqds_nil', filt_not]
                have key2 : finR (t1__law_is (d__law_is fuel) [.z (.tup (.str w :: y :: r)), .z (.int ((n + 1 : Nat) : Int)), .u, .u, .u, .u]) = .ok (.bl ((((((.str w :: y :: r : List D).length : Nat) : Int)) == many) && (y :: r).all (fB n))) := by
                  cases hq : (((((.str w :: y :: r : List D).length : Nat) : Int)) == many) with
                  | false => simp?! [t1__law_is, t2__law_is, t3__law_is, inn, Bool.or_self, hm1, hq]; rfl
                  | true => simp?! [t1__law_is, t2__law_is, t3__law_is, inn, Bool.or_self, hm1, hq, lc, eqN]; rfl
                rw [key2]
                congr 2
                cases c3 : (w == Str.ofString "sign") with
                | true =>
                  rw [c3, if_pos rfl] at hm2
                  rw [if_pos rfl, hm2, seq2]
                  cases r with
                  | nil => simp
                  | cons a b => rfl
                | false =>
                  rw [c3, if_neg (by decide)] at hm2
                  rw [if_neg (by decide)]
                  cases c4 : (["plus", "minus", "times"] : List Str).contains w with
                  | true =>
                    rw [c4, if_pos rfl] at hm2
                    rw [if_pos rfl, hm2, seq3]
                  | false =>
                    rw [c4, if_neg (by decide)] at hm2
                    rw [if_neg (by decide), hm2]
                    have : (((((.str w :: y :: r : List D).length : Nat) : Int)) == 0) = false := by rw [beq_eq_false_iff_ne]; simp only [List.length_cons]; omega
                    rw [this]
                    rfl
          | _ => cases k <;> cases hx
    | _ => cases k <;> cases h
/-! values -/
def Tw.op : Tw → Int → Int → Int
  | .plus, a, b => a + b | .minus, a, b => a - b | .times, a, b => a * b
def Fm.val (bx : List Int) : Fm → Int
  | .name k => bx.getD k 0
  | .num n => n
  | .sign f => -f.val bx
  | .two w f g => w.op (f.val bx) (g.val bx)
/-- a bound of the boxes, in bits -/
theorem val_bd {bx : List Int} {e : Nat} (he : 4 ≤ e) (hb : ∀ i ∈ bx, i.natAbs < 2 ^ e) : ∀ (f : Fm), f.Ok → (f.val bx).natAbs < 2 ^ (e * 2 ^ f.dp)
  | .name k, h => by
    show (bx.getD k 0).natAbs < 2 ^ (e * 2 ^ 1)
    have h1 : (bx.getD k 0).natAbs < 2 ^ e := by
      rw [List.getD_eq_getElem?_getD]
      cases q : bx[k]? with
      | none => exact Nat.two_pow_pos e
      | some i => exact hb i (List.mem_of_getElem? q)
    exact Nat.lt_of_lt_of_le h1 (Nat.pow_le_pow_right (by decide) (by omega))
  | .num n, h => by
    show ((n : Int)).natAbs < 2 ^ (e * 2 ^ 1)
    have h : n < 10 := h
    have : (2 : Nat) ^ 4 ≤ 2 ^ (e * 2 ^ 1) := Nat.pow_le_pow_right (by decide) (by omega)
    omega
  | .sign f, h => by
    have := val_bd he hb f h
    show (-f.val bx).natAbs < 2 ^ (e * 2 ^ (f.dp + 1))
    rw [Int.natAbs_neg]
    exact Nat.lt_of_lt_of_le this (Nat.pow_le_pow_right (by decide) (Nat.mul_le_mul_left _ (Nat.pow_le_pow_right (by decide) (by omega))))
  | .two w f g, h => by
    have h1 := val_bd he hb f h.1
    have h2 := val_bd he hb g h.2
    have m1 : 2 ^ (e * 2 ^ f.dp) ≤ 2 ^ (e * 2 ^ max f.dp g.dp) := Nat.pow_le_pow_right (by decide) (Nat.mul_le_mul_left _ (Nat.pow_le_pow_right (by decide) (by omega)))
    have m2 : 2 ^ (e * 2 ^ g.dp) ≤ 2 ^ (e * 2 ^ max f.dp g.dp) := Nat.pow_le_pow_right (by decide) (Nat.mul_le_mul_left _ (Nat.pow_le_pow_right (by decide) (by omega)))
    show (w.op (f.val bx) (g.val bx)).natAbs < 2 ^ (e * 2 ^ (max f.dp g.dp + 1))
    have e3 : e * 2 ^ (max f.dp g.dp + 1) = e * 2 ^ max f.dp g.dp + e * 2 ^ max f.dp g.dp := by rw [Nat.pow_succ, ← Nat.mul_assoc]; omega
    rw [e3, Nat.pow_add]
    generalize 2 ^ (e * 2 ^ max f.dp g.dp) = B at *
    have b2 : 2 ≤ B := by
      have : 0 ≤ (f.val bx).natAbs := Nat.zero_le _
      have p : 1 ≤ e * 2 ^ f.dp := Nat.mul_pos (by omega) (Nat.two_pow_pos _)
      have : (2 : Nat) ^ 1 ≤ 2 ^ (e * 2 ^ f.dp) := Nat.pow_le_pow_right (by decide) p
      omega
    have hh : B + B ≤ B * B := by
      have := Nat.mul_le_mul_right B b2
      omega
    cases w with
    | plus => show (f.val bx + g.val bx).natAbs < B * B; omega
    | minus => show (f.val bx - g.val bx).natAbs < B * B; omega
    | times =>
      show (f.val bx * g.val bx).natAbs < B * B
      rw [Int.natAbs_mul]
      exact Nat.mul_lt_mul'' (by omega) (by omega)
theorem val_big {bx : List Int} (hb : ∀ i ∈ bx, i.natAbs < 2 ^ 24) {f : Fm} (hf : f.Ok) (hd : f.dp ≤ 11) : (f.val bx).natAbs < 2 ^ 100000 := by
  have := val_bd (by decide) hb f hf
  refine Nat.lt_of_lt_of_le this (Nat.pow_le_pow_right (by decide) ?_)
  have : 2 ^ f.dp ≤ 2 ^ 11 := Nat.pow_le_pow_right (by decide) hd
  omega
theorem ix_box {bx : List Int} {k : Nat} (h : k < 3) (hl : bx.length = 3) : ixD (.tup (bx.map D.int)) (.int (k : Int)) = some (.int (bx.getD k 0)) := by
  rw [ix_t (by rw [List.length_map, hl]; omega), Int.toNat_natCast, List.getD_eq_getElem?_getD, List.getElem?_map, List.getD_eq_getElem?_getD, List.getElem?_eq_getElem (by omega)]
  rfl
theorem tw_ne (w : Tw) : (w.s == Str.ofString "name") = false ∧ (w.s == Str.ofString "number") = false ∧ (w.s == Str.ofString "sign") = false := by cases w <;> decide +kernel
theorem x_value {bx : List Int} (hl : bx.length = 3) (hb : ∀ i ∈ bx, i.natAbs < 2 ^ 24) : ∀ (f : Fm) (fuel : Nat), f.Ok → f.dp ≤ 11 → f.dp ≤ fuel → d_value fuel [f.D, .tup (bx.map D.int)] = .ok (.int (f.val bx))
  | f, 0, _, _, hf => by have := f.dp_pos; omega
  | .name k, fuel + 1, h, _, _ => by
    have ix := ix_box h hl
    show d_value (fuel + 1) [.tup [.str "name", .int k], .tup (bx.map D.int)] = _
    simp?! [v_value, g_value, beq_self_eq_true, ix]
    rfl
  | .num n, fuel + 1, h, _, _ => by
    have n1 : (Str.ofString "number" == Str.ofString "name") = false := by decide +kernel
    show d_value (fuel + 1) [.tup [.str "number", .int n], .tup (bx.map D.int)] = _
    simp?! [v_value, g_value, t1_value, n1, beq_self_eq_true]
    rfl
  | .sign f, fuel + 1, h, hd, hf => by
    have ih := x_value hl hb f fuel h (by simp only [Fm.dp] at hd; omega) (by simp only [Fm.dp] at hf; omega)
    have n1 : (Str.ofString "sign" == Str.ofString "name") = false := by decide +kernel
    have n2 : (Str.ofString "sign" == Str.ofString "number") = false := by decide +kernel
    show d_value (fuel + 1) [.tup [.str "sign", f.D], .tup (bx.map D.int)] = _
    simp?! [v_value, g_value, t1_value, t2_value, t3_value, n1, n2, beq_self_eq_true, ih]
    rfl
  | .two w f g, fuel + 1, h, hd, hf => by
    have i1 := x_value hl hb f fuel h.1 (by simp only [Fm.dp] at hd; omega) (by simp only [Fm.dp] at hf; omega)
    have i2 := x_value hl hb g fuel h.2 (by simp only [Fm.dp] at hd; omega) (by simp only [Fm.dp] at hf; omega)
    obtain ⟨n1, n2, n3⟩ := tw_ne w
    have mu : mulD (.int (f.val bx)) (.int (g.val bx)) = some (.int (f.val bx * g.val bx)) := mul_w (val_big hb h.1 (by simp only [Fm.dp] at hd; omega)) (val_big hb h.2 (by simp only [Fm.dp] at hd; omega))
    show d_value (fuel + 1) [.tup [.str w.s, f.D, g.D], .tup (bx.map D.int)] = .ok (.int (w.op (f.val bx) (g.val bx)))
    cases w with
    | plus =>
      have n4 : (Tw.plus.s == Str.ofString "plus") = true := by decide +kernel
      simp?! [v_value, g_value, t1_value, t2_value, t3_value, t4_value, t5_value, n1, n2, n3, n4, i1, i2, Tw.op]
    | minus =>
      have n4 : (Tw.minus.s == Str.ofString "plus") = false := by decide +kernel
      have n5 : (Tw.minus.s == Str.ofString "minus") = true := by decide +kernel
      simp?! [v_value, g_value, t1_value, t2_value, t3_value, t4_value, t5_value, t6_value, n1, n2, n3, n4, n5, i1, i2, Tw.op]
    | times =>
      have n4 : (Tw.times.s == Str.ofString "plus") = false := by decide +kernel
      have n5 : (Tw.times.s == Str.ofString "minus") = false := by decide +kernel
      simp?! [v_value, g_value, t1_value, t2_value, t3_value, t4_value, t5_value, t6_value, t7_value, n1, n2, n3, n4, n5, i1, i2, mu, Tw.op]
theorem comp_2 {i : Nat} {e : Rho → Res D} {ρ : Rho} {x y a b : D} (h1 : e (ρ.set i (.z x)) = .ok a) (h2 : e (ρ.set i (.z y)) = .ok b) : compD (gn i) yes e ρ [x, y] = .ok [a, b] :=
  comp_t (show gn i ρ x = some (ρ.set i (.z x)) from rfl) rfl h1 (comp_t (show gn i ρ y = some (ρ.set i (.z y)) from rfl) rfl h2 rfl)
theorem comp_1 {i : Nat} {e : Rho → Res D} {ρ : Rho} {x a : D} (h1 : e (ρ.set i (.z x)) = .ok a) : compD (gn i) yes e ρ [x] = .ok [a] :=
  comp_t (show gn i ρ x = some (ρ.set i (.z x)) from rfl) rfl h1 rfl
def Tw.pick {α : Type} : Tw → α → α → α → α
  | .plus, a, _, _ => a | .minus, _, b, _ => b | .times, _, _, c => c
theorem dix_tw {a b c : D} {f : Rho → Res (List D)} {fe : Rho → Res D} {ρ : Rho} (w : Tw) (h1 : f ρ = .ok [a, b, c]) (h2 : fe ρ = .ok (.str w.s)) : dixD ["plus", "minus", "times"] f fe ρ = .ok (w.pick a b c) := by
  unfold dixD
  rw [h1, h2]
  cases w <;> rfl
theorem x_lvalue {bx : List Int} (hl : bx.length = 3) (hb : ∀ i ∈ bx, i.natAbs < 2 ^ 24) : ∀ (f : Fm) (fuel : Nat), f.Ok → f.dp ≤ 11 → f.dp ≤ fuel → d__law_value fuel [f.D, .tup (bx.map D.int)] = .ok (.int (f.val bx))
  | f, 0, _, _, hf => by have := f.dp_pos; omega
  | .name k, fuel + 1, h, _, _ => by
    have ix := ix_box h hl
    show d__law_value (fuel + 1) [.tup [.str "name", .int k], .tup (bx.map D.int)] = _
    simp?! [v__law_value, g__law_value, beq_self_eq_true, ix]
    rfl
  | .num n, fuel + 1, h, _, _ => by
    have n1 : (Str.ofString "number" == Str.ofString "name") = false := by decide +kernel
    show d__law_value (fuel + 1) [.tup [.str "number", .int n], .tup (bx.map D.int)] = _
    simp?! [v__law_value, g__law_value, t1__law_value, n1, beq_self_eq_true]
    rfl
  | .sign f, fuel + 1, h, hd, hf => by
    have ih := x_lvalue hl hb f fuel h (by simp only [Fm.dp] at hd; omega) (by simp only [Fm.dp] at hf; omega)
    have n1 : (Str.ofString "sign" == Str.ofString "name") = false := by decide +kernel
    have n2 : (Str.ofString "sign" == Str.ofString "number") = false := by decide +kernel
    show d__law_value (fuel + 1) [.tup [.str "sign", f.D], .tup (bx.map D.int)] = _
    have it := its_tup (f := slc (var 0) (psm (con (.int 1))) pno) (ds := [f.D]) (ρ := [.z (.tup [.str "sign", f.D]), .z (.tup (bx.map D.int)), .u, .u]) (by simp?! [sl_1])
    have lc := lc_eq (i := 3) (t := yes) (e := e1__law_value (d__law_value fuel)) it (by simp) (comp_1 (a := .int (f.val bx)) (by
      show e1__law_value (d__law_value fuel) [.z (.tup [.str "sign", f.D]), .z (.tup (bx.map D.int)), .u, .z f.D] = _
      simp?! [e1__law_value, ih]))
    simp?! [v__law_value, g__law_value, t1__law_value, t2__law_value, t3__law_value, n1, n2, beq_self_eq_true, lc]
    rfl
  | .two w f g, fuel + 1, h, hd, hf => by
    have i1 := x_lvalue hl hb f fuel h.1 (by simp only [Fm.dp] at hd; omega) (by simp only [Fm.dp] at hf; omega)
    have i2 := x_lvalue hl hb g fuel h.2 (by simp only [Fm.dp] at hd; omega) (by simp only [Fm.dp] at hf; omega)
    obtain ⟨n1, n2, n3⟩ := tw_ne w
    have mu : mulD (.int (f.val bx)) (.int (g.val bx)) = some (.int (f.val bx * g.val bx)) := mul_w (val_big hb h.1 (by simp only [Fm.dp] at hd; omega)) (val_big hb h.2 (by simp only [Fm.dp] at hd; omega))
    show d__law_value (fuel + 1) [.tup [.str w.s, f.D, g.D], .tup (bx.map D.int)] = .ok (.int (w.op (f.val bx) (g.val bx)))
    have it := its_tup (f := slc (var 0) (psm (con (.int 1))) pno) (ds := [f.D, g.D]) (ρ := [.z (.tup [.str w.s, f.D, g.D]), .z (.tup (bx.map D.int)), .u, .u]) (by simp?! [sl_1])
    have lc := lc_eq (i := 3) (t := yes) (e := e1__law_value (d__law_value fuel)) it (by simp) (comp_2 (a := .int (f.val bx)) (b := .int (g.val bx)) (by
      show e1__law_value (d__law_value fuel) [.z (.tup [.str w.s, f.D, g.D]), .z (.tup (bx.map D.int)), .u, .z f.D] = _
      simp?! [e1__law_value, i1]) (by
      show e1__law_value (d__law_value fuel) [.z (.tup [.str w.s, f.D, g.D]), .z (.tup (bx.map D.int)), .u, .z g.D] = _
      simp?! [e1__law_value, i2]))
    have key : d__law_value (fuel + 1) [.tup [.str w.s, f.D, g.D], .tup (bx.map D.int)] = finR (t4__law_value (d__law_value fuel) [.z (.tup [.str w.s, f.D, g.D]), .z (.tup (bx.map D.int)), .z (.lst [.int (f.val bx), .int (g.val bx)]), .u]) := by
      simp?! [v__law_value, g__law_value, t1__law_value, t2__law_value, t3__law_value, n1, n2, n3, lc]
    rw [key]
    unfold t4__law_value
    rw [sret_def, dix_tw (a := .int (f.val bx + g.val bx)) (b := .int (f.val bx - g.val bx)) (c := .int (f.val bx * g.val bx)) w (by simp?! [mu]) (by simp?! []), retR_ok, finR_rt]
    cases w <;> rfl
/-! lists -/
theorem rngD_mem {n : Nat} {d : D} (h : d ∈ rngD 0 n) : ∃ j : Nat, j < n ∧ d = .int (j : Int) := by
  unfold rngD at h
  obtain ⟨j, hj, rfl⟩ := List.mem_map.mp h
  exact ⟨j, List.mem_range.mp hj, by simp⟩
theorem add_ll {a b : List D} (h : a.length + b.length ≤ 1000) : addD (.lst a) (.lst b) = some (.lst (a ++ b)) := by
  show (if a.length + b.length ≤ sizeLine then some (D.lst (a ++ b)) else none) = _
  rw [if_pos (by rw [sizeLine_eq]; omega)]
theorem add_tt {a b : List D} (h : a.length + b.length ≤ 1000) : addD (.tup a) (.tup b) = some (.tup (a ++ b)) := by
  show (if a.length + b.length ≤ sizeLine then some (D.tup (a ++ b)) else none) = _
  rw [if_pos (by rw [sizeLine_eq]; omega)]
theorem sl_hiT {α : Type} {f : α → D} {l : List α} {i : Int} (h0 : 0 ≤ i) (h1 : i ≤ l.length) (h2 : l.length ≤ 1000) : slD (.tup (l.map f)) none (some i) = some (.tup ((l.take i.toNat).map f)) := by
  have hl : (l.map f).length = l.length := List.length_map f
  show some (D.tup (DN.cutD (l.map f) none (some i))) = _
  unfold DN.cutD
  rw [HT.sIx_none, hl]
  obtain ⟨n, rfl⟩ := Int.eq_ofNat_of_zero_le h0
  rw [show HT.sIx l.length l.length (some (n : Int)) = min n l.length from HT.sIx_nat _ _ n]
  rw [List.drop_zero, Nat.sub_zero, Int.toNat_natCast, List.map_take]
  congr 2
  rw [Nat.min_eq_left (by omega)]
theorem sl_loT {α : Type} {f : α → D} {l : List α} {i : Int} (h0 : 0 ≤ i) (h1 : i ≤ l.length) (h2 : l.length ≤ 1000) : slD (.tup (l.map f)) (some i) none = some (.tup ((l.drop i.toNat).map f)) := by
  have hl : (l.map f).length = l.length := List.length_map f
  show some (D.tup (DN.cutD (l.map f) (some i) none)) = _
  unfold DN.cutD
  rw [HT.sIx_none, hl]
  obtain ⟨n, rfl⟩ := Int.eq_ofNat_of_zero_le h0
  rw [show HT.sIx l.length 0 (some (n : Int)) = min n l.length from HT.sIx_nat _ _ n]
  rw [Int.toNat_natCast, List.map_drop]
  congr 2
  rw [Nat.min_eq_left (by omega)]
  exact List.take_of_length_le (by rw [List.length_drop, hl]; omega)
/-! ### k59 -/
theorem x_cellL {ns : List Int} {k : Int} (h : 0 ≤ k) : ∃ c, d__law_cell_at [.lst (ns.map D.int), .int k] = .ok (.int c) := by
  have hl : ((ns.map D.int).length : Int) = ns.length := by rw [List.length_map]
  by_cases hk : k < ns.length
  · have hi : ixD (.lst (ns.map D.int)) (.int k) = some (.int (ns.getD k.toNat 0)) := by
      rw [ix_l ⟨h, by rw [hl]; exact hk⟩, List.getD_eq_getElem?_getD, List.getD_eq_getElem?_getD, List.getElem?_map, List.getElem?_eq_getElem (by omega)]
      rfl
    exact ⟨_, by simp?! [v__law_cell_at, g__law_cell_at, t1__law_cell_at, hl, hk, hi]; rfl⟩
  · exact ⟨0, by simp?! [v__law_cell_at, g__law_cell_at, t1__law_cell_at, hl, hk]⟩
theorem x_mixedL {ns : List Int} {k : Int} (h : 0 ≤ k) (h2 : k < 1000) : ∃ m, d__law_mixed [.lst (ns.map D.int), .int k] = .ok (.int m) ∧ 0 ≤ m ∧ m < 2147483629 := by
  obtain ⟨c, hc⟩ := x_cellL (ns := ns) h
  simp?! [v__law_mixed, g__law_mixed, t1__law_mixed, hc]
  exact ⟨_, rfl, Int.emod_nonneg _ (by decide), Int.emod_lt_of_pos _ (by decide)⟩
/-! formulas' things: tuples, texts, small numbers -/
mutual
def tq : Nat → DN.D → Bool
  | _, .int i => decide (i.natAbs < 100)
  | _, .str x => PyData.strOk x
  | n + 1, .tup xs => decide (xs.length ≤ 3) && tqs n xs
  | _, _ => false
def tqs : Nat → List DN.D → Bool
  | _, [] => true
  | n, x :: xs => tq n x && tqs n xs
end
theorem tqs_mem {n : Nat} : ∀ {ds : List D}, tqs n ds = true ↔ ∀ d ∈ ds, tq n d = true
  | [] => by unfold tqs; simp
  | d :: ds => by
    show (tq n d && tqs n ds) = true ↔ _
    rw [Bool.and_eq_true, tqs_mem (ds := ds)]
    simp
theorem tq_tup {n : Nat} {ds : List D} : tq (n + 1) (.tup ds) = true ↔ ds.length ≤ 3 ∧ ∀ d ∈ ds, tq n d = true := by
  show (decide (ds.length ≤ 3) && tqs n ds) = true ↔ _
  rw [Bool.and_eq_true, decide_eq_true_eq, tqs_mem]
theorem tq_str {n : Nat} {x : Str} : tq n (.str x) = PyData.strOk x := by cases n <;> rfl
theorem tq_int {n : Nat} {i : Int} : tq n (.int i) = decide (i.natAbs < 100) := by cases n <;> rfl
theorem tg_str {L n : Nat} {x : Str} : tg L n (.str x) = PyData.strOk x := by cases n <;> rfl
theorem tg_int {L n : Nat} {i : Int} : tg L n (.int i) = true := by cases n <;> rfl
theorem tg_non {L n : Nat} : tg L n .non = true := by cases n <;> rfl
theorem tg_bl {L n : Nat} {b : Bool} : tg L n (.bl b) = true := by cases n <;> rfl
theorem tq_up : ∀ (n m : Nat) (d : D), n ≤ m → tq n d = true → tq m d = true
  | n, m, .int i, _, h => by rw [tq_int] at h ⊢; exact h
  | n, m, .str x, _, h => by rw [tq_str] at h ⊢; exact h
  | n, m, .tup ds, hm, h => by
    cases n with
    | zero => cases h
    | succ n =>
      cases m with
      | zero => omega
      | succ m =>
        rw [tq_tup] at h ⊢
        exact ⟨h.1, fun d hd => tq_up n m d (by omega) (h.2 d hd)⟩
  | n, _, .non, _, h => by cases n <;> cases h
  | n, _, .bl _, _, h => by cases n <;> cases h
  | n, _, .lst _, _, h => by cases n <;> cases h
  | n, _, .fn _, _, h => by cases n <;> cases h
  | n, _, .ty _, _, h => by cases n <;> cases h
  | n, _, .dK _, _, h => by cases n <;> cases h
  | n, _, .dT _, _, h => by cases n <;> cases h
  | n, _, .arr _, _, h => by cases n <;> cases h
  | n, _, .pro _, _, h => by cases n <;> cases h
  | n, _, .dic _ _ _ _, _, h => by cases n <;> cases h
  | n, _, .adr _, _, h => by cases n <;> cases h
  | n, _, .ins _ _ _, _, h => by cases n <;> cases h
  | n, _, .tab _ _ _, _, h => by cases n <;> cases h
  | n, _, .pw _, _, h => by cases n <;> cases h
theorem tq_tg : ∀ (n : Nat) (d : D), tq n d = true → tg 6 n d = true
  | n, .int i, h => tg_int
  | n, .str x, h => by rw [tq_str] at h; rw [tg_str]; exact h
  | n, .tup ds, h => by
    cases n with
    | zero => cases h
    | succ n =>
      rw [tq_tup] at h
      exact tg_tup.mpr ⟨by omega, fun d hd => tq_tg n d (h.2 d hd)⟩
  | n, .non, h => by cases n <;> cases h
  | n, .bl _, h => by cases n <;> cases h
  | n, .lst _, h => by cases n <;> cases h
  | n, .fn _, h => by cases n <;> cases h
  | n, .ty _, h => by cases n <;> cases h
  | n, .dK _, h => by cases n <;> cases h
  | n, .dT _, h => by cases n <;> cases h
  | n, .arr _, h => by cases n <;> cases h
  | n, .pro _, h => by cases n <;> cases h
  | n, .dic _ _ _ _, h => by cases n <;> cases h
  | n, .adr _, h => by cases n <;> cases h
  | n, .ins _ _ _, h => by cases n <;> cases h
  | n, .tab _ _ _, h => by cases n <;> cases h
  | n, .pw _, h => by cases n <;> cases h
theorem fm_tq : ∀ (f : Fm), f.Ok → tq f.dp f.D = true
  | .name k, o => by
    show tq 1 (.tup [.str "name", .int k]) = true
    refine tq_tup.mpr ⟨by simp, fun d hd => ?_⟩
    simp at hd
    have o : k < 3 := o
    rcases hd with rfl | rfl
    · decide +kernel
    · rw [tq_int, decide_eq_true_eq]; omega
  | .num n, o => by
    show tq 1 (.tup [.str "number", .int n]) = true
    refine tq_tup.mpr ⟨by simp, fun d hd => ?_⟩
    simp at hd
    have o : n < 10 := o
    rcases hd with rfl | rfl
    · decide +kernel
    · rw [tq_int, decide_eq_true_eq]; omega
  | .sign f, o => by
    have h := fm_tq f o
    show tq (f.dp + 1) (.tup [.str "sign", f.D]) = true
    refine tq_tup.mpr ⟨by simp, fun d hd => ?_⟩
    simp at hd
    rcases hd with rfl | rfl
    · rw [tq_str]; decide +kernel
    · exact h
  | .two w f g, o => by
    have h1 := fm_tq f o.1
    have h2 := fm_tq g o.2
    show tq (max f.dp g.dp + 1) (.tup [.str w.s, f.D, g.D]) = true
    refine tq_tup.mpr ⟨by simp, fun d hd => ?_⟩
    simp at hd
    rcases hd with rfl | rfl | rfl
    · rw [tq_str]; cases w <;> decide +kernel
    · exact tq_up _ _ _ (by omega) h1
    · exact tq_up _ _ _ (by omega) h2
/-! ways -/
def Pth : DN.D → List Nat → Prop
  | _, [] => True
  | .tup ds, i :: w => ∃ d, ds[i]? = some d ∧ Pth d w
  | _, _ :: _ => False
def wayD (w : List Nat) : DN.D := .tup (w.map fun (i : Nat) => D.int (i : Int))
theorem add_llB {a b : List D} (h : a.length + b.length ≤ sizeLine) : addD (.lst a) (.lst b) = some (.lst (a ++ b)) := by
  show (if a.length + b.length ≤ sizeLine then some (D.lst (a ++ b)) else none) = _
  rw [if_pos h]
theorem wayD_add {w : List Nat} {i : Nat} (h : w.length ≤ 100) : addD (wayD w) (.tup [.int (i : Int)]) = some (wayD (w ++ [i])) := by
  unfold wayD
  rw [add_tt (by rw [List.length_map]; simp only [List.length_cons, List.length_nil]; omega), List.map_append]
  rfl
theorem x_places : ∀ (k fuel : Nat) (d : D) (pre : List Nat), k < fuel → k ≤ 11 → pre.length + k ≤ 20 → tq k d = true →
    ∃ ws : List (List Nat), d__law_places_in fuel [d, wayD pre] = .ok (.lst (ws.map fun w => wayD (pre ++ w))) ∧ ws ≠ [] ∧ ws.length ≤ 4 ^ k ∧ ∀ w ∈ ws, Pth d w ∧ w.length ≤ k
  | k, 0, d, pre, h, _, _, _ => by omega
  | k, fuel + 1, d, pre, hf, hk, hp, h => by
    have flat : ∀ (ht : isiD [d, .ty "tuple"] = some (.bl false)), d__law_places_in (fuel + 1) [d, wayD pre] = .ok (.lst [wayD pre]) := by
      intro ht
      simp?! [v__law_places_in, g__law_places_in, t1__law_places_in, t2__law_places_in, ht]
    have one : ∀ (e : d__law_places_in (fuel + 1) [d, wayD pre] = .ok (.lst [wayD pre])), ∃ ws : List (List Nat), d__law_places_in (fuel + 1) [d, wayD pre] = .ok (.lst (ws.map fun w => wayD (pre ++ w))) ∧ ws ≠ [] ∧ ws.length ≤ 4 ^ k ∧ ∀ w ∈ ws, Pth d w ∧ w.length ≤ k := by
      intro e
      refine ⟨[[]], by rw [e]; simp, by simp, Nat.pos_of_ne_zero (by simp), fun w hw => ?_⟩
      rcases List.mem_singleton.mp hw with rfl
      exact ⟨by cases d <;> trivial, Nat.zero_le _⟩
    cases d with
    | int i => exact one (flat (isi_i kt_i))
    | str x => exact one (flat (isi_s kt_s))
    | tup ds =>
      cases k with
      | zero => cases h
      | succ k =>
      rw [tq_tup] at h
      -- the loop
      have lp : ∀ (es : List D) (i : Nat) (acc : List (List Nat)) (c1 c2 : En), i + es.length ≤ 3 → (∀ j e, es[j]? = some e → ds[i + j]? = some e) → (∀ e ∈ es, tq k e = true) → acc ≠ [] → acc.length ≤ 1 + i * 4 ^ k → (∀ w ∈ acc, Pth (.tup ds) w ∧ w.length ≤ k + 1) →
          ∃ (ws : List (List Nat)) (c1' c2' : En), loopD (gt 2 (gsc (gn 3) (gsc (gn 4) gsn))) (b1__law_places_in (d__law_places_in fuel)) (DN.enumD i es) [.z (.tup ds), .z (wayD pre), .z (.lst (acc.map fun w => wayD (pre ++ w))), c1, c2]
              = .nx [.z (.tup ds), .z (wayD pre), .z (.lst (ws.map fun w => wayD (pre ++ w))), c1', c2'] ∧ ws ≠ [] ∧ ws.length ≤ 1 + (i + es.length) * 4 ^ k ∧ ∀ w ∈ ws, Pth (.tup ds) w ∧ w.length ≤ k + 1 := by
        intro es
        induction es with
        | nil => exact fun i acc c1 c2 _ _ _ h1 h2 h3 => ⟨acc, c1, c2, loop_nil, h1, by simpa using h2, h3⟩
        | cons e es ih =>
          intro i acc c1 c2 hi hget htq h1 h2 h3
          simp only [List.length_cons] at hi
          obtain ⟨ws, w1, w2, w3, w4⟩ := x_places k fuel e (pre ++ [i]) (by omega) (by omega) (by rw [List.length_append]; simp only [List.length_cons, List.length_nil]; omega) (htq e List.mem_cons_self)
          have gi : ds[i]? = some e := by simpa using hget 0 e rfl
          have p4 : 4 ^ k ≤ 4 ^ 11 := Nat.pow_le_pow_right (by decide) (by omega)
          have im : i * 4 ^ k ≤ 2 * 4 ^ 11 := Nat.mul_le_mul (by omega) p4
          have hsz : sizeLine = 16777216 := by decide +kernel
          have wa := wayD_add (w := pre) (i := i) (by omega)
          have al : addD (.lst (acc.map fun w => wayD (pre ++ w))) (.lst (ws.map fun w => wayD (pre ++ [i] ++ w))) = some (.lst ((acc ++ ws.map (i :: ·)).map fun w => wayD (pre ++ w))) := by
            rw [add_llB (by rw [List.length_map, List.length_map, hsz]; omega), List.map_append, List.map_map]
            congr 3
            refine List.map_congr_left fun w _ => ?_
            show _ = wayD (pre ++ (i :: w))
            rw [List.append_assoc]
            rfl
          have step : b1__law_places_in (d__law_places_in fuel) [.z (.tup ds), .z (wayD pre), .z (.lst (acc.map fun w => wayD (pre ++ w))), .z (.int (i : Int)), .z e] = .nx [.z (.tup ds), .z (wayD pre), .z (.lst ((acc ++ ws.map (i :: ·)).map fun w => wayD (pre ++ w))), .z (.int (i : Int)), .z e] := by
            simp?! [b1__law_places_in, wa, w1, al]
          obtain ⟨ws', c1', c2', r1, r2, r3, r4⟩ := ih (i + 1) (acc ++ ws.map (i :: ·)) (.z (.int (i : Int))) (.z e) (by omega) (fun j e' he' => by
              have := hget (j + 1) e' (by simpa using he')
              rw [show i + (j + 1) = i + 1 + j by omega] at this
              exact this) (fun e' he' => htq e' (List.mem_cons_of_mem _ he')) (by intro z; exact h1 (List.append_eq_nil_iff.mp z).1) (by
              rw [List.length_append, List.length_map, Nat.succ_mul]
              omega) (fun w hw => by
              rcases List.mem_append.mp hw with hw | hw
              · exact h3 w hw
              · obtain ⟨w', hw', rfl⟩ := List.mem_map.mp hw
                exact ⟨⟨e, gi, (w4 w' hw').1⟩, by simp only [List.length_cons]; have := (w4 w' hw').2; omega⟩)
          refine ⟨ws', c1', c2', ?_, r2, by rw [List.length_cons, show i + (es.length + 1) = i + 1 + es.length by omega]; exact r3, r4⟩
          show loopD _ _ (.tup [.int (i : Int), e] :: DN.enumD (i + 1) es) _ = _
          rw [loop_cons (ρ1 := [.z (.tup ds), .z (wayD pre), .z (.lst (acc.map fun w => wayD (pre ++ w))), .z (.int (i : Int)), .z e]) rfl step, r1]
      obtain ⟨ws, c1', c2', r1, r2, r3, r4⟩ := lp ds 0 [[]] .u .u (by omega) (fun j e he => by simpa using he) h.2 (by simp) (by simp) (fun w hw => by
        rcases List.mem_singleton.mp hw with rfl
        exact ⟨trivial, Nat.zero_le _⟩)
      refine ⟨ws, ?_, r2, ?_, r4⟩
      · have ei : enumI (acons (var 0) anil) [.z (.tup ds), .z (wayD pre), .z (.lst [wayD pre]), .u, .u] = .ok (DN.enumD 0 ds) := rfl
        have r1' : loopD (gt 2 (gsc (gn 3) (gsc (gn 4) gsn))) (b1__law_places_in (d__law_places_in fuel)) (DN.enumD 0 ds) [.z (.tup ds), .z (wayD pre), .z (.lst [wayD pre]), .u, .u] = .nx [.z (.tup ds), .z (wayD pre), .z (.lst (ws.map fun w => wayD (pre ++ w))), c1', c2'] := by
          rw [← r1]
          simp
        simp?! [v__law_places_in, g__law_places_in, t1__law_places_in, t2__law_places_in, isi_t kt_t, ei, r1']
      · have p1 : 1 ≤ 4 ^ k := Nat.pos_of_ne_zero (by simp)
        have : (0 + ds.length) * 4 ^ k ≤ 3 * 4 ^ k := Nat.mul_le_mul (by omega) (Nat.le_refl _)
        rw [Nat.pow_succ]
        omega
    | _ => cases k <;> cases h
/-! otherwise -/
theorem kb_s : kitB "str" "bool" = some false := by decide +kernel
theorem x_other {j : Nat} {d : D} {m : Int} (h0 : 0 ≤ m) (h : tq j d = true) : ∃ d', d__law_otherwise [d, .int m] = .ok d' ∧ tg 6 (j + 2) d' = true := by
  have hg := tq_tg j d h
  have pick : ∀ l : List D, l.length = 5 → (∀ x ∈ l, tg 6 (j + 2) x = true) → tg 6 (j + 2) (l.getD (m % 5).toNat .non) = true := fun l hl hx => hx _ (sel_mem (by omega))
  have up : tg 6 (j + 1) d = true := tg_up (by decide) j (j + 1) d (by omega) hg
  have one : tg 6 (j + 2) (.tup [d]) = true := tg_tup.mpr ⟨by simp, fun e he => by rcases List.mem_singleton.mp he with rfl; exact up⟩
  have oneL : tg 6 (j + 2) (.lst [d]) = true := tg_lst.mpr ⟨by simp, fun e he => by rcases List.mem_singleton.mp he with rfl; exact up⟩
  cases d with
  | int i =>
    rw [tq_int, decide_eq_true_eq] at h
    have p : i.natAbs < 2 ^ 1900 := Nat.lt_trans h (by decide +kernel)
    have st := str_i p
    have al : addD (.lst [.bl true, .non, .str (toString i), .tup [.int i]]) (.lst [.int (-1 - i)]) = some (.lst [.bl true, .non, .str (toString i), .tup [.int i], .int (-1 - i)]) := add_ll (by simp)
    have so : PyData.strOk (toString i) = true := by
      have all : ((List.range 199).all fun n => PyData.strOk (toString ((n : Int) - 99))) = true := by decide +kernel
      have := List.all_eq_true.mp all (i + 99).toNat (List.mem_range.mpr (by omega))
      rw [show (((i + 99).toNat : Nat) : Int) - 99 = i by omega] at this
      exact this
    refine ⟨_, by simp?! [v__law_otherwise, g__law_otherwise, t1__law_otherwise, t2__law_otherwise, isi_i ki_i, isi_i kt_i, isi_i kb_i, st, al]; rfl, pick _ rfl fun x hx => ?_⟩
    simp only [List.mem_cons, List.not_mem_nil, or_false] at hx
    rcases hx with rfl | rfl | rfl | rfl | rfl
    · exact tg_bl
    · exact tg_non
    · rw [tg_str]; exact so
    · exact one
    · exact tg_int
  | str x =>
    refine ⟨_, by simp?! [v__law_otherwise, g__law_otherwise, t1__law_otherwise, t2__law_otherwise, t3__law_otherwise, isi_s ki_s, isi_s kt_s, isi_s kb_s]; rfl, pick _ rfl fun y hy => ?_⟩
    simp only [List.mem_cons, List.not_mem_nil, or_false] at hy
    rcases hy with rfl | rfl | rfl | rfl | rfl
    · exact tg_non
    · exact one
    · exact oneL
    · rw [tg_str]; decide +kernel
    · exact tg_int
  | tup ds =>
    cases j with
    | zero => cases h
    | succ j =>
    rw [tq_tup] at h
    have hm : ∀ e ∈ ds, tg 6 j e = true := fun e he => tq_tg j e (h.2 e he)
    obtain ⟨s1, p1, q1, q1'⟩ : ∃ es, slD (.tup ds) none (some 1) = some (.tup es) ∧ es.length ≤ 3 ∧ ∀ e ∈ es, e ∈ ds := ⟨_, rfl, by unfold DN.cutD; rw [List.length_take, List.length_drop]; omega, fun e he => List.mem_of_mem_drop (List.mem_of_mem_take he)⟩
    obtain ⟨s2, p2, q2, q2'⟩ : ∃ es, slD (.tup ds) (some 1) none = some (.tup es) ∧ es.length ≤ 3 ∧ ∀ e ∈ es, e ∈ ds := ⟨_, rfl, by unfold DN.cutD; rw [List.length_take, List.length_drop]; omega, fun e he => List.mem_of_mem_drop (List.mem_of_mem_take he)⟩
    have a1 := add_tt (a := ds) (b := s1) (by omega)
    have al : addD (.lst [.lst ds, .lst ds, .tup (ds ++ s1)]) (.lst [.tup s2, .lst [.tup ds]]) = some (.lst [.lst ds, .lst ds, .tup (ds ++ s1), .tup s2, .lst [.tup ds]]) := add_ll (by simp)
    have ls : listD [.tup ds] = some (.lst ds) := rfl
    have up2 : ∀ e ∈ ds, tg 6 (j + 1 + 1) e = true := fun e he => tg_up (by decide) j (j + 2) e (by omega) (hm e he)
    refine ⟨_, by simp?! [v__law_otherwise, g__law_otherwise, isi_t kt_t, ls, p1, p2, psmR_ok, a1, al]; rfl, pick _ rfl fun x hx => ?_⟩
    simp only [List.mem_cons, List.not_mem_nil, or_false] at hx
    rcases hx with rfl | rfl | rfl | rfl | rfl
    · exact tg_lst.mpr ⟨by omega, up2⟩
    · exact tg_lst.mpr ⟨by omega, up2⟩
    · refine tg_tup.mpr ⟨by rw [List.length_append]; omega, fun e he => ?_⟩
      rcases List.mem_append.mp he with he | he
      · exact up2 e he
      · exact up2 e (q1' e he)
    · exact tg_tup.mpr ⟨by omega, fun e he => up2 e (q2' e he)⟩
    · exact oneL
  | _ => cases j <;> cases h
/-! put -/
theorem plains_ints : ∀ (n : Nat) (w : List Nat), DN.plains n (w.map fun (i : Nat) => D.int (i : Int)) = true
  | n, [] => by unfold DN.plains; rfl
  | n, i :: w => by
    show (DN.plain n (.int (i : Int)) && DN.plains n (w.map fun (i : Nat) => D.int (i : Int))) = true
    rw [plains_ints n w]
    cases n <;> rfl
theorem eq_way (w : List Nat) : eqD (wayD w) (.tup []) = some (.bl w.isEmpty) := by
  have p : DN.plain 64 (wayD w) = true := plains_ints 63 w
  have q : DN.plain 64 (.tup []) = true := by decide +kernel
  have o : DN.eqOk (wayD w) (.tup []) = true := by
    show ((DN.flatD (wayD w) && DN.flatD (.tup [])) || (DN.plain 64 (wayD w) && DN.plain 64 (.tup []))) = true
    rw [p, q]
    simp
  show (if DN.eqOk (wayD w) (.tup []) = true then some (D.bl (DN.eqd (wayD w) (.tup []))) else none) = _
  rw [if_pos o]
  cases w <;> rfl
theorem x_put {L : D → Res D} {J : Nat} (hL : ∀ (j : Nat) (x : D), j ≤ J → tq j x = true → ∃ x', L x = .ok x' ∧ tg 6 (j + 2) x' = true) : ∀ (fuel : Nat) (w : List Nat) (k : Nat) (d : D), w.length < fuel → k ≤ J → tq k d = true → Pth d w → ∃ d', d__law_put_at 0 L fuel [d, wayD w, .adr 0] = .ok d' ∧ tg 6 (k + 2) d' = true
  | 0, _, _, _, h, _, _, _ => by omega
  | fuel + 1, w, k, d, hf, hk, h, hp => by
    have ew := eq_way w
    cases w with
    | nil =>
      obtain ⟨x', e, t⟩ := hL k d hk h
      have c1 : callA 0 L 2 (var 0) [.z d, .z (wayD []), .z (.adr 0), .u, .u] = L d := by unfold callA; simp; rfl
      refine ⟨x', ?_, t⟩
      have eb : ([] : List Nat).isEmpty = true := rfl
      simp?! [v__law_put_at, g__law_put_at, ew, eb, c1, e]
    | cons i w =>
      cases d with
      | tup ds =>
        cases k with
        | zero => cases h
        | succ k =>
        rw [tq_tup] at h
        obtain ⟨e, gi, pw⟩ := hp
        have hil : i < ds.length := (List.getElem?_eq_some_iff.mp gi).1
        have ge : (i : Int).toNat = i := by omega
        have ix : ixD (.tup ds) (.int (i : Int)) = some e := by
          rw [ix_t ⟨by omega, by omega⟩, ge, List.getD_eq_getElem?_getD, gi]
          rfl
        have hi0 : ixD (wayD (i :: w)) (.int 0) = some (.int (i : Int)) := ix_t0
        have hs1 : slD (wayD (i :: w)) (some 1) none = some (wayD w) := sl_1
        have he : tq k e = true := h.2 e (List.mem_of_getElem? gi)
        obtain ⟨z', r1, r2⟩ := x_put hL fuel w k e (by simp only [List.length_cons] at hf; omega) (by omega) he pw
        have sa := sl_hiT (f := fun d : D => d) (l := ds) (i := (i : Int)) (by omega) (by omega) (by omega)
        rw [List.map_id', List.map_id'] at sa
        have sb := sl_loT (f := fun d : D => d) (l := ds) (i := (i : Int) + 1) (by omega) (by omega) (by omega)
        rw [List.map_id', List.map_id'] at sb
        have a1 := add_tt (a := ds.take (i : Int).toNat) (b := [z']) (by rw [List.length_take]; simp only [List.length_cons, List.length_nil]; omega)
        have a2 := add_tt (a := ds.take (i : Int).toNat ++ [z']) (b := ds.drop ((i : Int) + 1).toNat) (by rw [List.length_append, List.length_take, List.length_drop]; simp only [List.length_cons, List.length_nil]; omega)
        have eb : (i :: w).isEmpty = false := rfl
        refine ⟨.tup (ds.take (i : Int).toNat ++ [z'] ++ ds.drop ((i : Int) + 1).toNat), ?_, ?_⟩
        · simp?! [v__law_put_at, g__law_put_at, ew, eb, hi0, ix, hs1, psmR_ok, r1, sa, sb, a1, a2]
        · refine tg_tup.mpr ⟨?_, fun x hx => ?_⟩
          · rw [List.length_append, List.length_append, List.length_take, List.length_drop]
            simp only [List.length_cons, List.length_nil]
            omega
          · have old : ∀ x ∈ ds, tg 6 (k + 2) x = true := fun x hx => tg_up (by decide) k (k + 2) x (by omega) (tq_tg k x (h.2 x hx))
            rcases List.mem_append.mp hx with hx | hx
            · rcases List.mem_append.mp hx with hx | hx
              · exact old x (List.mem_of_mem_take hx)
              · rcases List.mem_singleton.mp hx with rfl
                exact r2
            · exact old x (List.mem_of_mem_drop hx)
      | _ => exact hp.elim
theorem lam3_ok {den : (D → Res D) → D → D → Res D} {fb : Rho → Res D} {j : Nat} {f1 f2 : Rho → Res D} {ρ : Rho} {a b : D} {n : Int} (h1 : f1 ρ = .ok a) (h2 : f2 ρ = .ok b) (h3 : ρ[j]? = some (.z (.int n))) : lam3 den fb j f1 f2 ρ = noexR (den (fun d => fb [.z d, .z (.int n)]) a b) := by
  unfold lam3
  rw [h1, h2]
  show (match ρ[j]? with
    | some (.z (.int n)) => noexR (den (fun d => fb [.z d, .z (.int n)]) a b)
    | _ => .bad) = _
  rw [h3]
theorem x_spoiltW {k : Nat} {d : D} {n deep : Int} (hk : k ≤ 10) (h0 : 0 ≤ n) (h : tq k d = true) : ∃ d', d__law_spoilt_v2 [d, .int n, .int deep] = .ok d' ∧ tg 6 (k + 2) d' = true := by
  obtain ⟨ws, w1, w2, w3, w4⟩ := x_places k 12 d [] (by omega) (by omega) (by simp only [List.length_nil]; omega) h
  have wl : 0 < ws.length := List.length_pos_iff.mpr w2
  have w1 : d__law_places_in 12 [d, .tup []] = .ok (.lst (ws.map wayD)) := by
    rw [show D.tup [] = wayD [] from rfl, w1]
    congr 3
  have hl : ((ws.map wayD).length : Int) = ws.length := by rw [List.length_map]
  have q0 : 0 ≤ n % (ws.length : Int) := Int.emod_nonneg _ (by omega)
  have q1 : n % (ws.length : Int) < ws.length := Int.emod_lt_of_pos _ (by omega)
  have md : modD (.int n) (.int (ws.length : Int)) = some (.int (n % (ws.length : Int))) := mod_p (by omega)
  obtain ⟨w, hw, gw⟩ : ∃ w, w ∈ ws ∧ (ws.map wayD).getD (n % (ws.length : Int)).toNat .non = wayD w := by
    have hlt : (n % (ws.length : Int)).toNat < ws.length := by omega
    refine ⟨ws[(n % (ws.length : Int)).toNat], List.getElem_mem hlt, ?_⟩
    rw [List.getD_eq_getElem?_getD, List.getElem?_map, List.getElem?_eq_getElem hlt]
    rfl
  have ix : ixD (.lst (ws.map wayD)) (.int (n % (ws.length : Int))) = some (wayD w) := by rw [ix_l ⟨q0, by rw [hl]; exact q1⟩, gw]
  have hL : ∀ (j : Nat) (x : D), j ≤ 10 → tq j x = true → ∃ x', (fun x => fl__law_spoilt_v2 [.z x, .z (.int n)]) x = .ok x' ∧ tg 6 (j + 2) x' = true := by
    intro j x _ hx
    obtain ⟨x', e, t⟩ := x_other (m := n / 4096) (by omega) hx
    refine ⟨x', ?_, t⟩
    show fl__law_spoilt_v2 [.z x, .z (.int n)] = _
    simp?! [fl__law_spoilt_v2, e]
  obtain ⟨d', e, t⟩ := x_put hL 12 w k d (by have := (w4 w hw).2; omega) hk h (w4 w hw).1
  refine ⟨d', ?_, t⟩
  have lm := lam3_ok (den := fun L a b => d__law_put_at 0 L 12 [a, b, .adr 0]) (fb := fl__law_spoilt_v2) (j := 1) (f1 := var 0) (f2 := var 4) (ρ := [.z d, .z (.int n), .z (.int deep), .z (.lst (ws.map wayD)), .z (wayD w)]) rfl rfl rfl
  have e2 : noexR (Res.ok d') = .ok d' := rfl
  simp?! [v__law_spoilt_v2, g__law_spoilt_v2, t1__law_spoilt_v2, t2__law_spoilt_v2, w1, hl, md, ix, lm, e, e2]
/-! once -/
theorem b59 {a c d e : En} {n : Int} {f : Fm} (h0 : 0 ≤ n) (ho : f.Ok) : ∃ g : Fm, b1__law_once [a, .z (.int n), .z f.D, c, d, e] = .nx [a, .z (.int n), .z g.D, c, d, e] ∧ g.Ok ∧ g.dp ≤ f.dp + 1 := by
  have q : n / 32 % 2 = 0 ∨ n / 32 % 2 = 1 := by omega
  have fp := f.dp_pos
  rcases q with q | q
  · exact ⟨.sign f, by simp?! [b1__law_once, q]; rfl, ho, Nat.le_refl _⟩
  · exact ⟨.two .times (.name 1) f, by simp?! [b1__law_once, q]; rfl, ⟨by show 1 < 3; decide, ho⟩, by simp only [Fm.dp]; omega⟩
theorem lp59 {a d e : En} {n : Int} (h0 : 0 ≤ n) : ∀ (ds : List D) (f : Fm) (c : En), f.Ok → ∃ (g : Fm) (c' : En), loopD (gn 3) b1__law_once ds [a, .z (.int n), .z f.D, c, d, e] = .nx [a, .z (.int n), .z g.D, c', d, e] ∧ g.Ok ∧ g.dp ≤ f.dp + ds.length
  | [], f, c, h => ⟨f, c, loop_nil, h, by simp⟩
  | x :: ds, f, c, h => by
    obtain ⟨g, g1, g2, g3⟩ := b59 (a := a) (c := .z x) (d := d) (e := e) h0 h
    obtain ⟨k, c', k1, k2, k3⟩ := lp59 (a := a) (d := d) (e := e) h0 ds g (.z x) g2
    exact ⟨k, c', by rw [loop_cons (ρ1 := [a, .z (.int n), .z f.D, .z x, d, e]) rfl g1, k1], k2, by rw [List.length_cons]; omega⟩
theorem fin59 {ns : List Int} {n : Int} {c : En} {d : D} {k : Nat} (hk : k ≤ 40) (h : tg 6 k d = true) : finR (t4__law_once [.z (.lst (ns.map D.int)), .z (.int n), .z d, c, .u, .u]) = .ok (.bl true) := by
  have fo := x_isform (by decide) h
  have li : d__law_is 12 [d, .int 8] = .ok (.bl (fB 8 d)) := x_lis 8 12 d 6 k (by decide) (by decide) (by omega) h
  have nb : ∀ x : Bool, neD (.bl x) (.bl x) = some (.bl false) := fun x => by rw [ne_bb]; simp
  obtain ⟨m3, e3, _, _⟩ := x_mixedL (ns := ns) (k := 3) (by omega) (by omega)
  obtain ⟨m4, e4, _, _⟩ := x_mixedL (ns := ns) (k := 4) (by omega) (by omega)
  obtain ⟨m5, e5, _, _⟩ := x_mixedL (ns := ns) (k := 5) (by omega) (by omega)
  have z0 : (3 : Int) + 0 = 3 := rfl
  have z1 : (3 : Int) + 1 = 4 := rfl
  have z2 : (3 : Int) + 2 = 5 := rfl
  have q : acons (con (.int 3)) anil [.z (.lst (ns.map D.int)), .z (.int n), .z d, c, .z (.bl (fB 8 d)), .u] = .ok [.int 3] := rfl
  have e := rng1_eq q (by omega) (by omega)
  have rg : rngD 0 (3 : Int).toNat = [.int 0, .int 1, .int 2] := rfl
  rw [rg] at e
  have cm : compD (gn 3) yes e2__law_once [.z (.lst (ns.map D.int)), .z (.int n), .z d, .u, .z (.bl (fB 8 d)), .u] [.int 0, .int 1, .int 2] = .ok [.int (m3 % 2001 - 1000), .int (m4 % 2001 - 1000), .int (m5 % 2001 - 1000)] := by
    refine comp_t (ρ1 := [.z (.lst (ns.map D.int)), .z (.int n), .z d, .z (.int 0), .z (.bl (fB 8 d)), .u]) rfl rfl ?_ (comp_t (ρ1 := [.z (.lst (ns.map D.int)), .z (.int n), .z d, .z (.int 1), .z (.bl (fB 8 d)), .u]) rfl rfl ?_ (comp_t (ρ1 := [.z (.lst (ns.map D.int)), .z (.int n), .z d, .z (.int 2), .z (.bl (fB 8 d)), .u]) rfl rfl ?_ rfl))
    · simp?! [e2__law_once, z0, e3]
    · simp?! [e2__law_once, z1, e4]
    · simp?! [e2__law_once, z2, e5]
  have lc := lc_eq (i := 3) (t := yes) (e := e2__law_once) e (by simp) cm
  have tp : tupD [.lst [.int (m3 % 2001 - 1000), .int (m4 % 2001 - 1000), .int (m5 % 2001 - 1000)]] = some (.tup [.int (m3 % 2001 - 1000), .int (m4 % 2001 - 1000), .int (m5 % 2001 - 1000)]) := rfl
  have key : finR (t4__law_once [.z (.lst (ns.map D.int)), .z (.int n), .z d, c, .u, .u]) = finR (t7__law_once [.z (.lst (ns.map D.int)), .z (.int n), .z d, c, .z (.bl (fB 8 d)), .z (.tup [.int (m3 % 2001 - 1000), .int (m4 % 2001 - 1000), .int (m5 % 2001 - 1000)])]) := by
    simp?! [t4__law_once, t5__law_once, t6__law_once, fo, li, isi_b kb_b, nb, lc, tp]
  rw [key]
  cases hb : fB 8 d with
  | false => simp?! [t7__law_once]
  | true =>
    obtain ⟨f, rfl, f1, f2⟩ := fB_fm 8 d hb
    have bd : ∀ i ∈ [m3 % 2001 - 1000, m4 % 2001 - 1000, m5 % 2001 - 1000], i.natAbs < 2 ^ 24 := by
      intro i hi
      simp at hi
      rcases hi with rfl | rfl | rfl <;> omega
    have v1 := x_value (bx := [m3 % 2001 - 1000, m4 % 2001 - 1000, m5 % 2001 - 1000]) rfl bd f 12 f1 (by omega) (by omega)
    have v2 := x_lvalue (bx := [m3 % 2001 - 1000, m4 % 2001 - 1000, m5 % 2001 - 1000]) rfl bd f 12 f1 (by omega) (by omega)
    simp only [List.map_cons, List.map_nil] at v1 v2
    simp?! [t7__law_once, v1, v2, beq_self_eq_true]
theorem x_once (ns : List Int) : d__law_once [.lst (ns.map D.int)] = .ok (.bl true) := by
  obtain ⟨m0, e0, g0, g1⟩ := x_mixedL (ns := ns) (k := 0) (by omega) (by omega)
  obtain ⟨m1, e1, h0, h1⟩ := x_mixedL (ns := ns) (k := 1) (by omega) (by omega)
  obtain ⟨m2, e2, i0, i1⟩ := x_mixedL (ns := ns) (k := 2) (by omega) (by omega)
  obtain ⟨f, f1, f2, f3⟩ := x_lformula 12 m1 (1 + m0 % 7) h0 (by omega) (by omega)
  have q : acons (bop modD (bop divD (var 1) (con (.int 8))) (con (.int 4))) anil [.z (.lst (ns.map D.int)), .z (.int m0), .z f.D, .u, .u, .u] = .ok [.int (m0 / 8 % 4)] := by simp?! []
  have e := rng1_eq q (by omega) (by omega)
  obtain ⟨g, c, k1, k2, k3⟩ := lp59 (a := .z (.lst (ns.map D.int))) (d := .u) (e := .u) g0 (rngD 0 (m0 / 8 % 4).toNat) f .u f2
  rw [rngD_len] at k3
  have key : d__law_once [.lst (ns.map D.int)] = finR (t3__law_once [.z (.lst (ns.map D.int)), .z (.int m0), .z g.D, c, .u, .u]) := by
    simp?! [v__law_once, g__law_once, t1__law_once, t2__law_once, e0, e1, f1, e, k1]
  rw [key]
  have tgf := fm_tg g
  by_cases c1 : m0 / 64 % 2 = 1
  · obtain ⟨d', s1, s2⟩ := x_spoiltW (k := g.dp) (d := g.D) (n := m2) (deep := m0 / 128 % 6) (by omega) i0 (fm_tq g k2)
    have key2 : finR (t3__law_once [.z (.lst (ns.map D.int)), .z (.int m0), .z g.D, c, .u, .u]) = finR (t4__law_once [.z (.lst (ns.map D.int)), .z (.int m0), .z d', c, .u, .u]) := by
      simp?! [t3__law_once, c1, beq_self_eq_true, e2, s1]
    rw [key2]
    exact fin59 (by omega) s2
  · have ec : (m0 / 64 % 2 == 1) = false := by simpa using c1
    have key2 : finR (t3__law_once [.z (.lst (ns.map D.int)), .z (.int m0), .z g.D, c, .u, .u]) = finR (t4__law_once [.z (.lst (ns.map D.int)), .z (.int m0), .z g.D, c, .u, .u]) := by
      simp?! [t3__law_once, ec]
    rw [key2]
    exact fin59 (k := g.dp) (by omega) (tg_up (by decide) g.dp g.dp g.D (Nat.le_refl _) tgf)
theorem comp59 {ns0 : List Int} {t : Int} : ∀ ns : List Int, compD (gn 2) yes e1_law [.z (.arr ns0), .z (.int t), .u] (ns.map D.int) = .ok ((ns.map fun x => x + 104729 * t).map D.int)
  | [] => rfl
  | x :: ns => by
    refine comp_t (ρ1 := [.z (.arr ns0), .z (.int t), .z (.int x)]) rfl rfl ?_ (comp59 ns)
    simp?! [e1_law]
theorem st59 {ns : List Int} (h : ns.length ≤ 63) (t : Int) (c : En) : b2_law [.z (.arr ns), .z (.int t), c] = .nx [.z (.arr ns), .z (.int t), c] := by
  have it : its (var 0) [.z (.arr ns), .z (.int t), c] = .ok (ns.map D.int) := rfl
  have lc := lc_eq (i := 2) (t := yes) (e := e1_law) it (by rw [List.length_map]; omega) (comp59 (ns0 := ns) (t := t) ns)
  have al : addD (.lst ((ns.map fun x => x + 104729 * t).map D.int)) (.lst [.int t]) = some (.lst (((ns.map fun x => x + 104729 * t) ++ [t]).map D.int)) := by
    rw [add_ll (by rw [List.length_map, List.length_map]; simp only [List.length_cons, List.length_nil]; omega), List.map_append]
    rfl
  have on := x_once ((ns.map fun x => x + 104729 * t) ++ [t])
  simp?! [b2_law, lc, al, on]
theorem lp59L {ns : List Int} (h : ns.length ≤ 63) : ∀ (ds : List D) (c : En), (∀ d ∈ ds, ∃ t : Int, d = .int t) → ∃ c', loopD (gn 1) b2_law ds [.z (.arr ns), c, .u] = .nx [.z (.arr ns), c', .u]
  | [], c, _ => ⟨c, rfl⟩
  | d :: ds, c, hd => by
    obtain ⟨t, rfl⟩ := hd d List.mem_cons_self
    obtain ⟨c', e⟩ := lp59L h ds (.z (.int t)) fun d' h' => hd d' (List.mem_cons_of_mem _ h')
    exact ⟨c', by rw [loop_cons (ρ1 := [.z (.arr ns), .z (.int t), .u]) rfl (st59 h t .u), e]⟩
theorem law_true (ns : List Int) (h : ns.length ≤ 63) (hz : ∀ z ∈ ns, Builtin.Int.intBits z ≤ 1048576) : d_law [.arr ns] = .ok (.bl true) := by
  obtain ⟨c, e⟩ := lp59L h (rngD 0 (8 : Int).toNat) .u fun d hd => let ⟨j, _, e⟩ := rngD_mem hd; ⟨j, e⟩
  have q : acons (con (.int 8)) anil [.z (.arr ns), .u, .u] = .ok [.int 8] := rfl
  have r := rng1_eq q (by omega) (by omega)
  simp?! [v_law, g_law, t1_law, r, e]
def dd_is_from : He.DefD := ⟨("is_from", none), "is_from", "is_from", defArgs s_is_from, defBody s_is_from, defScope s_is_from, [], []⟩
def dd_is_formula_to : He.DefD := ⟨("is_formula_to", none), "is_formula_to", "is_formula_to", defArgs s_is_formula_to, defBody s_is_formula_to, defScope s_is_formula_to, [], []⟩
def dd_is_formula : He.DefD := ⟨("is_formula", none), "is_formula", "is_formula", defArgs s_is_formula, defBody s_is_formula, defScope s_is_formula, [], []⟩
def dd_value : He.DefD := ⟨("value", none), "value", "value", defArgs s_value, defBody s_value, defScope s_value, [], []⟩
def dd__law_cell_at : He.DefD := ⟨("_law_cell_at", none), "_law_cell_at", "_law_cell_at", defArgs s__law_cell_at, defBody s__law_cell_at, defScope s__law_cell_at, [], []⟩
def dd__law_mixed : He.DefD := ⟨("_law_mixed", none), "_law_mixed", "_law_mixed", defArgs s__law_mixed, defBody s__law_mixed, defScope s__law_mixed, [], []⟩
def dd__law_drawn : He.DefD := ⟨("_law_drawn", none), "_law_drawn", "_law_drawn", defArgs s__law_drawn, defBody s__law_drawn, defScope s__law_drawn, [], []⟩
def dd__law_formula : He.DefD := ⟨("_law_formula", none), "_law_formula", "_law_formula", defArgs s__law_formula, defBody s__law_formula, defScope s__law_formula, [], []⟩
def dd__law_value : He.DefD := ⟨("_law_value", none), "_law_value", "_law_value", defArgs s__law_value, defBody s__law_value, defScope s__law_value, [], []⟩
def dd__law_is : He.DefD := ⟨("_law_is", none), "_law_is", "_law_is", defArgs s__law_is, defBody s__law_is, defScope s__law_is, [], []⟩
def dd__law_places_in : He.DefD := ⟨("_law_places_in", none), "_law_places_in", "_law_places_in", defArgs s__law_places_in, defBody s__law_places_in, defScope s__law_places_in, [], []⟩
def dd__law_otherwise : He.DefD := ⟨("_law_otherwise", none), "_law_otherwise", "_law_otherwise", defArgs s__law_otherwise, defBody s__law_otherwise, defScope s__law_otherwise, [], []⟩
def dd__law_put_at : He.DefD := ⟨("_law_put_at", none), "_law_put_at", "_law_put_at", defArgs s__law_put_at, defBody s__law_put_at, defScope s__law_put_at, [], []⟩
def dd__law_spoilt : He.DefD := ⟨("_law_spoilt", none), "_law_spoilt", "_law_spoilt", defArgs s__law_spoilt, defBody s__law_spoilt, defScope s__law_spoilt, [], []⟩
def dd__law_once : He.DefD := ⟨("_law_once", none), "_law_once", "_law_once", defArgs s__law_once, defBody s__law_once, defScope s__law_once, [], []⟩
def dd_law : He.DefD := ⟨("law", none), "law", "law", defArgs s_law, defBody s_law, defScope s_law, [], []⟩
def fn : List He.DefD := [dd_is_from, dd_is_formula_to, dd_is_formula, dd_value, dd__law_cell_at, dd__law_mixed, dd__law_drawn, dd__law_formula, dd__law_value, dd__law_is, dd__law_places_in, dd__law_otherwise, dd__law_put_at, dd__law_spoilt, dd__law_once, dd_law]
def fa : List He.Fa := [.glo "is_from", .glo "is_formula_to", .glo "is_formula", .glo "value", .glo "_law_cell_at", .glo "_law_mixed", .glo "_law_drawn", .glo "_law_formula", .glo "_law_value", .glo "_law_is", .glo "_law_places_in", .glo "_law_otherwise", .glo "_law_put_at", .glo "_law_spoilt", .glo "_law_once", .glo "law", .free "int", .free "isinstance", .free "bool", .free "tuple", .free "len", .free "str", .free "all", .free "enumerate", .free "list", .free "range", .int "DEEPEST" (8), .str "NAMES" "abc", .glo "SIGNS"]
def ts : List He.Tab := [((fun K => He.ga K "SIGNS"), ["plus", "minus", "times"])]
def tf : List He.Defn := [("_law_spoilt", none)]
def ex (K : PySem.W.Frag) : Bool := (He.valsB K (He.ga K "SIGNS") [("plus", He.Dv.str " + "), ("minus", He.Dv.str " - "), ("times", He.Dv.str "*")] && true)
abbrev R : PySem.W.OpenRow := PySem.W.OpenLaw.row PySem.Challenge.rw_pocketpile_k59_lists_anywhere_in_formula
abbrev hk : PySem.W.Hook := He.hookX 5 fa fn ts tf ex
def ob (s : PySem.W.SharedT) : He.AlX := He.obsX 5 fa fn ts tf ex (HandSHeadRun.getT s)
theorem ob_eq (s : PySem.W.SharedT) : ob s = hk.obs s.abs := He.obsX_eq (HandSHeadRun.getT_eq s)
def names : List PySem.Str := (["DEEPEST", "NAMES", "SIGNS", "is_from", "is_formula_to", "is_formula", "value", "_law_cell_at", "_law_mixed", "_law_drawn", "_law_formula", "_law_value", "_law_is", "_law_places_in", "_law_put_at", "_law_otherwise", "_law_spoilt", "_law_once"] : List PySem.Str)
theorem run_f (w : World) : HandSHeadRun.RunEq R (PySem.W.view R.prog [20]) hk ob 3000 names (w.withFollow "special-get-raises" false) := by
  intro os
  kernel_rfl
theorem run_t (w : World) : HandSHeadRun.RunEq R (PySem.W.view R.prog [20]) hk ob 3000 names (w.withFollow "special-get-raises" true) := by
  intro os
  kernel_rfl
theorem run (w : World) : HandSHeadRun.RunEq R (PySem.W.view R.prog [20]) hk ob 3000 names w := PySem.W.byRow2 "special-get-raises" (P := fun w => HandSHeadRun.RunEq R (PySem.W.view R.prog [20]) hk ob 3000 names w) run_f run_t w
theorem top_of {w : World} {K : PySem.W.Frag} {h : Heap} {mg : Str → Option Value} (X : K.In h) (G : h.Ns mainGlobals mg) (c : He.SaysX fa fn ts tf ex w h K) : Top w K mg :=
  ⟨(c.t.d.def_ 0 (d := dd_is_from) rfl),
   (He.glo_ok X G (c.t.d.fact 0 (f := .glo "is_from") rfl)),
   (c.t.d.def_ 1 (d := dd_is_formula_to) rfl),
   (He.glo_ok X G (c.t.d.fact 1 (f := .glo "is_formula_to") rfl)),
   (c.t.d.def_ 2 (d := dd_is_formula) rfl),
   (He.glo_ok X G (c.t.d.fact 2 (f := .glo "is_formula") rfl)),
   (c.t.d.def_ 3 (d := dd_value) rfl),
   (He.glo_ok X G (c.t.d.fact 3 (f := .glo "value") rfl)),
   (c.t.d.def_ 4 (d := dd__law_cell_at) rfl),
   (He.glo_ok X G (c.t.d.fact 4 (f := .glo "_law_cell_at") rfl)),
   (c.t.d.def_ 5 (d := dd__law_mixed) rfl),
   (He.glo_ok X G (c.t.d.fact 5 (f := .glo "_law_mixed") rfl)),
   (c.t.d.def_ 6 (d := dd__law_drawn) rfl),
   (He.glo_ok X G (c.t.d.fact 6 (f := .glo "_law_drawn") rfl)),
   (c.t.d.def_ 7 (d := dd__law_formula) rfl),
   (He.glo_ok X G (c.t.d.fact 7 (f := .glo "_law_formula") rfl)),
   (c.t.d.def_ 8 (d := dd__law_value) rfl),
   (He.glo_ok X G (c.t.d.fact 8 (f := .glo "_law_value") rfl)),
   (c.t.d.def_ 9 (d := dd__law_is) rfl),
   (He.glo_ok X G (c.t.d.fact 9 (f := .glo "_law_is") rfl)),
   (c.t.d.def_ 10 (d := dd__law_places_in) rfl),
   (He.glo_ok X G (c.t.d.fact 10 (f := .glo "_law_places_in") rfl)),
   (c.t.d.def_ 11 (d := dd__law_otherwise) rfl),
   (He.glo_ok X G (c.t.d.fact 11 (f := .glo "_law_otherwise") rfl)),
   (c.t.d.def_ 12 (d := dd__law_put_at) rfl),
   (He.glo_ok X G (c.t.d.fact 12 (f := .glo "_law_put_at") rfl)),
   (c.t.d.def_ 13 (d := dd__law_spoilt) rfl),
   (He.glo_ok X G (c.t.d.fact 13 (f := .glo "_law_spoilt") rfl)),
   (c.t.d.def_ 14 (d := dd__law_once) rfl),
   (He.glo_ok X G (c.t.d.fact 14 (f := .glo "_law_once") rfl)),
   (c.t.d.def_ 15 (d := dd_law) rfl),
   (He.glo_ok X G (c.t.d.fact 15 (f := .glo "law") rfl)),
   (He.free_ok X G (c.t.d.fact 16 (f := .free "int") rfl)),
   (He.free_ok X G (c.t.d.fact 17 (f := .free "isinstance") rfl)),
   (He.free_ok X G (c.t.d.fact 18 (f := .free "bool") rfl)),
   (He.free_ok X G (c.t.d.fact 19 (f := .free "tuple") rfl)),
   (He.free_ok X G (c.t.d.fact 20 (f := .free "len") rfl)),
   (He.free_ok X G (c.t.d.fact 21 (f := .free "str") rfl)),
   (He.free_ok X G (c.t.d.fact 22 (f := .free "all") rfl)),
   (He.free_ok X G (c.t.d.fact 23 (f := .free "enumerate") rfl)),
   (He.free_ok X G (c.t.d.fact 24 (f := .free "list") rfl)),
   (He.free_ok X G (c.t.d.fact 25 (f := .free "range") rfl)),
   (He.int_ok X G (c.t.d.fact 26 (f := .int "DEEPEST" (8)) rfl)),
   (He.str_ok X G (c.t.d.fact 27 (f := .str "NAMES" "abc") rfl)),
   (dic_s X G (tab_eq c.t 0 (t := ((fun K => He.ga K "SIGNS"), ["plus", "minus", "times"])) rfl) (He.ba c.more).1 (c.t.d.fact 28 (f := .glo "SIGNS") rfl))⟩
theorem law_end {l : PySem.W.OpenLaw} {w : World} {K : PySem.W.Frag} {h : Heap} {mg : Str → Option Value} {f : Addr} (X : K.In h) (G : h.Ns mainGlobals mg) (hfa : mg ("law" : Str) = some (.ref f)) (c : He.SaysX fa fn ts tf ex w h K) : LamX.LawAtS l w K (L2.CX l.prog w) 17 63 "script" mg f h := by
  have Z := top_of X G c
  have e := hfa.symm.trans Z.m_law
  cases e
  obtain ⟨fd, Fd⟩ := Z.f_law
  have b := FunD.bindsA (ps := ["script"]) Fd fun _ _ _ _ _ _ us hl => match us, hl with | [_], _ => rfl
  refine lawAtT (T := tabT K) (tf := tf) X c.hd c.out c.empty (fun p hp => ?_) (fd := fd) (den := d_law) (fun s v => b s [v] rfl) law_true fun base h1 h2 h3 => ?_
  · unfold tabT at hp
    simp only [List.mem_cons, List.not_mem_nil, or_false] at hp
    rcases hp with rfl
    · exact ⟨("_law_spoilt", none), by unfold tf; simp, rfl⟩
  · exact law_fn Z h3 Fd
end LW
open PySem PySem.W PySem.Calls PyProof.Rows
set_option maxRecDepth 100000 in
set_option maxHeartbeats 0 in
theorem PySem.Challenge.cw_pocketpile_k59_lists_anywhere_in_formula_holds : PySem.Challenge.rw_pocketpile_k59_lists_anywhere_in_formula.Holds := by
  w_on; o_law
  refine HandSHeadRun.head_any (r := OpenLaw.row PySem.Challenge.rw_pocketpile_k59_lists_anywhere_in_formula) (q := view (OpenLaw.row PySem.Challenge.rw_pocketpile_k59_lists_anywhere_in_formula).prog [20]) (H := LW.hk) (ob := LW.ob) (M := 3000) (loose := LW.names) (d := HandSHeadRun.topDef (OpenLaw.row PySem.Challenge.rw_pocketpile_k59_lists_anywhere_in_formula).prog 20) (kwd := []) LW.ob_eq
    (by kernel_rfl) (fun s => by kernel_rfl) LW.run (by kernel_rfl) (by kernel_rfl) (by kernel_rfl) (by rfl) (by first | assumption | decide +kernel) (by decide +kernel) ⟨rfl, rfl, rfl, rfl, rfl, by decide +kernel⟩ ?hw ?hc
  case hw => w_witness2
  case hc =>
    refine LamX.walk_ofTsE (l := PySem.Challenge.rw_pocketpile_k59_lists_anywhere_in_formula) (n := 63) (k := 17) (x := "script") (CX := fun w => L2.CX (PySem.Challenge.rw_pocketpile_k59_lists_anywhere_in_formula).prog w) rfl (by decide) (by kernel_rfl) ⟨rfl, by decide, by decide⟩ ?F (fun _ _ _ _ _ z => DN.cx_false z)
    intro w mg fa h Y G hmg0
    obtain ⟨K, KX, c⟩ := Y
    have hmg : mg ("law" : PySem.Str) = some (.ref fa) := by
      have e : (HandSHeadRun.topDef (OpenLaw.row PySem.Challenge.rw_pocketpile_k59_lists_anywhere_in_formula).prog 20).name = ("law" : PySem.Str) := by kernel_rfl
      rw [← e]
      exact hmg0
    exact ⟨K, KX, LW.law_end (l := PySem.Challenge.rw_pocketpile_k59_lists_anywhere_in_formula) KX G hmg c⟩
