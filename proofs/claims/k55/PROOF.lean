import PyProof.Rows.All
import Wide.All
import OpenK.AllK
import Wide.FinOn
import PyProof.EqAt
import PyProof.EqKinds
import PyProof.TupleCall
import HandS.Base
import HandS.Call
import HandS.List
import HandS.Comp
import HandS.Ends
import HandS.Dict
import HandS.Iter
import HandS.Text
import HandS.Words
import HandS.WordsList
import HandS.WordsExc
import HandS.Exc
import HandS.ExcOwn
import HandS.Wide
import HandS.IsInst
import HandS.TupAny
import HandS.TupMul
import HandS.Lambda
import HandS.EndTab
import HandS.HeadWalk
import HandS.HeadHook1
import HandS.HeadHook2
import HandS.Defaults
import HandS.NoneIn
import HandS.Style
import KE.KDictDisplayH
import HandS.HeadEnd
import HandS.Head0
import HandS.Head1
import HandS.Head2
import HandS.HeadHook3
import HandS.HeadHook4
import HandS.Replace
import HandS.ExcIs
import HandS.Flt
import HandS.More
import HandS.TryMany
import HandS.CallLocal
import HandS.Strs
import HandS.ReplaceLit
import HandS.ReplaceList
import HandS.Zip
import PyProof.ReprRoads
import HandS.Deep
import HandS.Small
import PyProof.DictUpdate
import KE.GoesMore
import KE.KItemsList
import HandS.DictTup
import KE.KDictZip
import HandS.ReplaceDef
import KE.GoesEnum
import HandS.Nested
import HandS.StrMore
import KE.KDictCopyH
import KE.KDictKeyed
import KE.KEqDict
import KE.SortData
import KE.KDictPairs
import KE.DataCmp
import KE.IntTextLaws
import PySem.Challenge.RW_pocketpile_k55_whole_bounds_hold
set_option Elab.async false
set_option linter.all false
set_option maxRecDepth 100000
set_option maxHeartbeats 4000000
/-! DN: a program's defs as plain functions of data. The heap is dealt with here, once. -/
namespace DN
open PySem PySem.Spec PyProof.Rows L2
open LamX (Tabs ExtN)

/-- data -/
inductive D where
  | non | bl (b : Bool) | int (i : Int) | str (x : Str) | lst (xs : List D) | tup (xs : List D) | fn (x : Str) | ty (n : String)
  | dK (kvs : List (Key × V)) | dT (kvs : List (List Key × V)) | arr (ns : List Int)
  /-- a tuple of texts that has no dict of its own -/
  | pro (xs : List Str)
  /-- a dict whose keys are nested tuples (an object of the frame's own) -/
  | dic (P : Program) (w : World) (ks vs : List D)
  /-- a thing known by its address alone -/
  | adr (a : Addr)
  /-- an instance of the class c, its attributes (an object of the frame's own) -/
  | ins (c : Str) (ns : List Str) (vs : List D)
  /-- a dict of text keys, frozen; where its address is known, that one -/
  | tab (o : Option Addr) (ks : List Str) (vs : List D)
  /-- a tuple of ints, made at run time -/
  | pw (ks : List Int)
  /-- a tuple that has no dict of its own -/
  | frm (ds : List D)
def kvK (ks : List Str) (vs : List V) : List (Key × V) := (ks.zip vs).map fun q => (Sum.inr q.1, q.2)

/-- what comes: a value, an own error by its class's name, or nothing is promised -/
inductive Res (α : Type) where
  | ok (a : α) | ex (n : Str) | bad
def Res.bind {α β : Type} : Res α → (α → Res β) → Res β
  | .ok a, f => f a
  | .ex n, _ => .ex n
  | .bad, _ => .bad
def Res.map {α β : Type} (r : Res α) (f : α → β) : Res β := r.bind fun a => .ok (f a)
def ofO {α : Type} : Option α → Res α
  | some a => .ok a
  | none => .bad

mutual
inductive Rp (K : PySem.W.Frag) (H : Hp) : V → D → Prop
  | non : Rp K H .non .non
  | bl (b : Bool) : Rp K H (.bl b) (.bl b)
  | int (i : Int) : Rp K H (.int i) (.int i)
  | str (x : Str) : Rp K H (.str x) (.str x)
  | fn (x : Str) : Rp K H (.ref (He.ga K x)) (.fn x)
  | ty (n : String) : Rp K H (.ty n) (.ty n)
  | lst {a : Addr} {xs : List V} {ds : List D} : H a = some (.lst xs) → RpAll K H xs ds → Rp K H (.ref a) (.lst ds)
  | tup {a : Addr} {xs : List V} {ds : List D} : SqT K H a xs → RpAll K H xs ds → Rp K H (.ref a) (.tup ds)
  | dK {a : Addr} {kvs : List (Key × V)} : H a = some (.dK kvs) → Rp K H (.ref a) (.dK kvs)
  | dT {a : Addr} {kvs : List (List Key × V)} : (∃ od, H a = some (.frz od (.dT kvs))) → Rp K H (.ref a) (.dT kvs)
  | arr {a : Addr} {ns : List Int} : SqL K H a (ns.map V.int) → Rp K H (.ref a) (.arr ns)
  | pro {a : Addr} {xs : List Str} : (∃ o : Obj, o.cls = .type "tuple" ∧ o.dict = none ∧ H a = some (.frz o (.tup (xs.map V.str)))) → Rp K H (.ref a) (.pro xs)
  | adr (a : Addr) : Rp K H (.ref a) (.adr a)
  | tab {a : Addr} {o : Option Addr} {ks : List Str} {ws : List V} {ds : List D} : (∀ p, o = some p → a = p) → H a = some (.dK (kvK ks ws)) → ks.length = ws.length → RpAll K H ws ds → Rp K H (.ref a) (.tab o ks ds)
  | pw {a : Addr} {ks : List Int} : H a = some (.tup (ks.map V.int)) → Rp K H (.ref a) (.pw ks)
  | frm {a : Addr} {xs : List V} {ds : List D} : (∃ o : Obj, o.cls = .type "tuple" ∧ o.dict = none ∧ H a = some (.frz o (.tup xs))) → RpAll K H xs ds → Rp K H (.ref a) (.frm ds)
inductive RpAll (K : PySem.W.Frag) (H : Hp) : List V → List D → Prop
  | nil : RpAll K H [] []
  | cons {v : V} {vs : List V} {d : D} {ds : List D} : Rp K H v d → RpAll K H vs ds → RpAll K H (v :: vs) (d :: ds)
end

def Sub (F H : Hp) : Prop := ∀ a o, F a = some o → H a = some o
theorem Sub.refl (F : Hp) : Sub F F := fun _ _ h => h
theorem Sub.trans {F G H : Hp} (a : Sub F G) (b : Sub G H) : Sub F H := fun x o h => b x o (a x o h)
theorem Sub.rd {F H : Hp} {a : Addr} {u : HO} (e : Sub F H) (h : Rd F a u) : Rd H a u := by
  rcases h with h | ⟨o, h⟩
  · exact .inl (e _ _ h)
  · exact .inr ⟨o, e _ _ h⟩
theorem Sub.sl {K : PySem.W.Frag} {F H : Hp} {a : Addr} {xs : List V} (e : Sub F H) (h : SqL K F a xs) : SqL K H a xs := h.elim (fun h => .inl (e.rd h)) .inr
theorem Sub.st {K : PySem.W.Frag} {F H : Hp} {a : Addr} {xs : List V} (e : Sub F H) (h : SqT K F a xs) : SqT K H a xs := h.elim (fun h => .inl (e.rd h)) .inr
mutual
theorem Rp.mono {K : PySem.W.Frag} {F H : Hp} (e : Sub F H) : ∀ {v : V} {d : D}, Rp K F v d → Rp K H v d
  | _, _, .non => .non
  | _, _, .bl b => .bl b
  | _, _, .int i => .int i
  | _, _, .str x => .str x
  | _, _, .fn x => .fn x
  | _, _, .ty n => .ty n
  | _, _, .lst h t => .lst (e _ _ h) (RpAll.mono e t)
  | _, _, .tup h t => .tup (e.st h) (RpAll.mono e t)
  | _, _, .dK h => .dK (e _ _ h)
  | _, _, .dT ⟨od, h⟩ => .dT ⟨od, e _ _ h⟩
  | _, _, .arr h => .arr (e.sl h)
  | _, _, .pro ⟨o, h1, h2, h3⟩ => .pro ⟨o, h1, h2, e _ _ h3⟩
  | _, _, .adr a => .adr a
  | _, _, .tab h1 h2 h3 t => .tab h1 (e _ _ h2) h3 (RpAll.mono e t)
  | _, _, .pw h => .pw (e _ _ h)
  | _, _, .frm ⟨o, h1, h2, h3⟩ t => .frm ⟨o, h1, h2, e _ _ h3⟩ (RpAll.mono e t)
theorem RpAll.mono {K : PySem.W.Frag} {F H : Hp} (e : Sub F H) : ∀ {vs : List V} {ds : List D}, RpAll K F vs ds → RpAll K H vs ds
  | _, _, .nil => .nil
  | _, _, .cons h t => .cons (Rp.mono e h) (RpAll.mono e t)
end
section
variable {K : PySem.W.Frag} {F H : Hp}
theorem RpAll.length : ∀ {vs : List V} {ds : List D}, RpAll K F vs ds → vs.length = ds.length
  | _, _, .nil => rfl
  | _, _, .cons _ t => by rw [List.length_cons, List.length_cons, RpAll.length t]
theorem RpAll.get : ∀ {vs : List V} {ds : List D} {i : Nat} {d : D}, RpAll K F vs ds → ds[i]? = some d → ∃ v, vs[i]? = some v ∧ Rp K F v d
  | _, _, _, _, .nil, e => by simp at e
  | _, _, 0, _, .cons h _, e => by
    simp at e; subst e; exact ⟨_, rfl, h⟩
  | _, _, i + 1, d, .cons _ t, e => by
    obtain ⟨v, h1, h2⟩ := RpAll.get (i := i) (d := d) t (by simpa using e)
    exact ⟨v, by simpa using h1, h2⟩
theorem RpAll.append : ∀ {vs ws : List V} {ds es : List D}, RpAll K F vs ds → RpAll K F ws es → RpAll K F (vs ++ ws) (ds ++ es)
  | _, _, _, _, .nil, s => s
  | _, _, _, _, .cons h t, s => .cons h (RpAll.append t s)
theorem RpAll.take : ∀ {vs : List V} {ds : List D} (n : Nat), RpAll K F vs ds → RpAll K F (vs.take n) (ds.take n)
  | _, _, 0, _ => by simp; exact .nil
  | _, _, _ + 1, .nil => .nil
  | _, _, n + 1, .cons h t => .cons h (RpAll.take n t)
theorem RpAll.drop : ∀ {vs : List V} {ds : List D} (n : Nat), RpAll K F vs ds → RpAll K F (vs.drop n) (ds.drop n)
  | _, _, 0, r => r
  | _, _, _ + 1, .nil => .nil
  | _, _, n + 1, .cons _ t => RpAll.drop n t
theorem RpAll.ints : ∀ (ns : List Int), RpAll K F (ns.map V.int) (ns.map D.int)
  | [] => .nil
  | n :: ns => .cons (.int n) (RpAll.ints ns)
end

/-- the frozen part F of H -/
structure Fz (F H : Hp) : Prop where
  sub : Sub F H
  nt : ∀ a ps, F a ≠ some (.tbl ps)
/-- a table, or a tuple (which no one changes) -/
def Sd (o : HO) : Prop := (∃ ps, o = .tbl ps) ∨ ∃ xs, o = .tup xs
/-- from (F, H) to (F', H') -/
structure Nx (T : List (Addr × Str)) (F H F' H' : Hp) : Prop where
  f : Sub F F'
  z : Fz F' H'
  h : ExtN H H'
  new : ∀ a o, F' a = some o → F a = some o ∨ ∀ o', H a = some o' → Sd o'
  tab : Tabs T H → Tabs T H'
section
variable {T : List (Addr × Str)} {F H F1 H1 F2 H2 : Hp}
theorem Nx.refl (z : Fz F H) : Nx T F H F H := ⟨Sub.refl F, z, ExtN.refl H, fun _ _ h => .inl h, fun h => h⟩
theorem Nx.trans (a : Nx T F H F1 H1) (b : Nx T F1 H1 F2 H2) : Nx T F H F2 H2 where
  f := a.f.trans b.f
  z := b.z
  h := a.h.trans b.h
  new := fun x o e => by
    rcases b.new x o e with h | h
    · exact a.new x o h
    · refine .inr fun o' e' => ?_
      by_cases q : ∃ ps, o' = .tbl ps
      · exact .inl q
      · exact h o' (a.h x o' e' fun ps z => q ⟨ps, z⟩)
  tab := fun h => b.tab (a.tab h)
/-- a new object that is frozen from its begin -/
theorem Nx.push {p : Addr} {o : HO} (z : Fz F H) (hp : H p = none) (ho : ∀ ps, o ≠ .tbl ps) : Nx T F H (upd F p o) (upd H p o) := by
  have fp : F p = none := by
    cases q : F p with
    | none => rfl
    | some u =>
      have := z.sub _ _ q
      rw [hp] at this; cases this
  refine ⟨fun a u e => ?_, ⟨fun a u e => ?_, fun a ps e => ?_⟩, fun b u e _ => ?_, fun a u e => ?_, fun t => t.ext fun b u e => ?_⟩
  · rw [upd_ne (ne_of_none e fp)]; exact e
  · by_cases h : a = p
    · subst h; rw [upd_same] at e ⊢; exact e
    · rw [upd_ne h] at e ⊢; exact z.sub _ _ e
  · by_cases h : a = p
    · subst h; rw [upd_same] at e; exact ho ps (Option.some.inj e)
    · rw [upd_ne h] at e; exact z.nt _ _ e
  · rw [upd_ne (ne_of_none e hp)]; exact e
  · by_cases h : a = p
    · subst h; exact .inr fun o' e' => by rw [hp] at e'; cases e'
    · rw [upd_ne h] at e; exact .inl e
  · rw [upd_ne (ne_of_none e hp)]; exact e
/-- a new object that is not frozen -/
theorem Nx.lay {p : Addr} {o : HO} (z : Fz F H) (hp : H p = none) : Nx T F H F (upd H p o) := by
  refine ⟨Sub.refl F, ⟨fun a u e => ?_, z.nt⟩, fun b u e _ => ?_, fun a u e => .inl e, fun t => t.ext fun b u e => ?_⟩
  · rw [upd_ne (ne_of_none (z.sub _ _ e) hp)]; exact z.sub _ _ e
  · rw [upd_ne (ne_of_none e hp)]; exact e
  · rw [upd_ne (ne_of_none e hp)]; exact e
theorem Nx.keep (n : Nx T F H F1 H1) {a : Addr} {o : HO} (e : H a = some o) (ho : ∀ ps, o ≠ .tbl ps) : H1 a = some o := n.h a o e ho
theorem Nx.out (n : Nx T F H F1 H1) {a : Addr} {o : HO} (e : H a = some o) (ho : ∀ ps, o ≠ .tbl ps) (hf : F a = none) (hx : ∀ xs, o ≠ .tup xs := by intro _ z; cases z) : F1 a = none := by
  cases q : F1 a with
  | none => rfl
  | some u =>
    rcases n.new a u q with h | h
    · rw [hf] at h; cases h
    · rcases h o e with ⟨ps, z⟩ | ⟨xs, z⟩
      · exact absurd z (ho ps)
      · exact absurd z (hx xs)
end

/-- a slot: nothing is known; frozen data; an object of the frame's own -/
inductive En where
  | u | z (d : D) | o (d : D)
abbrev Rho := List En
/-! dicts of nested keys -/
mutual
def D.key : D → Option NestedKey
  | .non => some .none
  | .bl b => some (.num (if b = true then 1 else 0))
  | .int i => some (.num i)
  | .str x => some (.text x)
  | .tup ds => (D.keys ds).map .tup
  | _ => none
def D.keys : List D → Option (List NestedKey)
  | [] => some []
  | d :: ds => (D.key d).bind fun k => (D.keys ds).map fun ks => k :: ks
end
def EntR (p : NestedKey × Addr × V) (q : NestedKey × Addr × Value) : Prop := p.1 = q.1 ∧ p.2.1 = q.2.1 ∧ RelV p.2.2 q.2.2
/-- the dict at a: its keys (the tuples' addresses) and values -/
def DicO (P : Program) (w : World) (a : Addr) (es : List (NestedKey × Addr × V)) : HO := .ext fun h => (a == sysModules) = false ∧ es.length ≤ sizeLine ∧ ∃ xs : List (NestedKey × Addr × Value), Paired EntR es xs ∧
  ∃ o ents ep, h.get? a = some o ∧ o.ExactDict ∧ o.data = .dict ents ep ∧ ents.toList = xs.map (entryOfKey (nestedKind P w)) ∧ (xs.map (·.1)).Nodup
inductive DicR (K : PySem.W.Frag) (F : Hp) : List (NestedKey × Addr × V) → List D → List D → Prop
  | nil : DicR K F [] [] []
  | cons {n : NestedKey} {a : Addr} {v : V} {es : List (NestedKey × Addr × V)} {k d : D} {ks vs : List D} : k.key = some n → n.depth ≤ 8 → Rp K F (.ref a) k → Rp K F v d → DicR K F es ks vs → DicR K F ((n, a, v) :: es) (k :: ks) (d :: vs)
theorem DicR.mono {K : PySem.W.Frag} {F F' : Hp} (e : Sub F F') {es : List (NestedKey × Addr × V)} {ks vs : List D} (h : DicR K F es ks vs) : DicR K F' es ks vs := by
  induction h with
  | nil => exact .nil
  | cons h1 h2 h3 h4 _ ih => exact .cons h1 h2 (h3.mono e) (h4.mono e) ih
/-- the object at p, not frozen, is d -/
def OwnAt (K : PySem.W.Frag) (F H : Hp) (p : Addr) : D → Prop
  | .lst ds => ∃ xs, H p = some (.lst xs) ∧ RpAll K F xs ds
  | .dK kvs => H p = some (.dK kvs)
  | .dT kvs => H p = some (.dT kvs)
  | .dic P w ks vs => ∃ es, H p = some (DicO P w p es) ∧ DicR K F es ks vs
  | .ins c ns vs => ∃ dx ws, H p = some (.ins (He.ga K c) dx (ns.zip ws)) ∧ RpAll K F ws vs
  | _ => False
theorem OwnAt.solid {K : PySem.W.Frag} {F H : Hp} {p : Addr} : ∀ {d : D}, OwnAt K F H p d → ∃ o, H p = some o ∧ ∀ ps, o ≠ .tbl ps
  | .lst ds, ⟨xs, h, _⟩ => ⟨_, h, fun ps z => by cases z⟩
  | .dK kvs, h => ⟨_, h, fun ps z => by cases z⟩
  | .dT kvs, h => ⟨_, h, fun ps z => by cases z⟩
  | .dic P w ks vs, ⟨es, h, _⟩ => ⟨_, h, fun ps z => by unfold DicO at z; cases z⟩
  | .ins c ns vs, ⟨dx, ws, h, _⟩ => ⟨_, h, fun ps z => by cases z⟩
  | .non, h => h.elim
  | .bl _, h => h.elim
  | .int _, h => h.elim
  | .str _, h => h.elim
  | .tup _, h => h.elim
  | .fn _, h => h.elim
  | .ty _, h => h.elim
  | .arr _, h => h.elim
  | .pro _, h => h.elim
  | .adr _, h => h.elim
  | .tab _ _ _, h => h.elim
theorem OwnAt.notTup {K : PySem.W.Frag} {F H : Hp} {p : Addr} {d : D} {xs : List V} (h : OwnAt K F H p d) (e : H p = some (.tup xs)) : False := by
  cases d with
  | lst ds => obtain ⟨ys, q, _⟩ := h; rw [e] at q; cases q
  | dK kvs => have q : H p = some (.dK kvs) := h; rw [e] at q; cases q
  | dT kvs => have q : H p = some (.dT kvs) := h; rw [e] at q; cases q
  | dic P w ks vs => obtain ⟨es, q, _⟩ := h; rw [e] at q; unfold DicO at q; cases q
  | ins c ns vs => obtain ⟨dx, ws, q, _⟩ := h; rw [e] at q; cases q
  | _ => exact h
theorem OwnAt.mono {K : PySem.W.Frag} {T : List (Addr × Str)} {F H F' H' : Hp} {p : Addr} (n : Nx T F H F' H') : ∀ {d : D}, OwnAt K F H p d → OwnAt K F' H' p d
  | .lst ds, ⟨xs, h, r⟩ => ⟨xs, n.keep h fun ps z => (by cases z), RpAll.mono n.f r⟩
  | .dK kvs, h => n.keep h fun ps z => (by cases z)
  | .dT kvs, h => n.keep h fun ps z => (by cases z)
  | .dic P w ks vs, ⟨es, h, r⟩ => ⟨es, n.keep h fun ps z => (by unfold DicO at z; cases z), r.mono n.f⟩
  | .ins c ns vs, ⟨dx, ws, h, r⟩ => ⟨dx, ws, n.keep h fun ps z => (by cases z), r.mono n.f⟩
  | .non, h => h.elim
  | .bl _, h => h.elim
  | .int _, h => h.elim
  | .str _, h => h.elim
  | .tup _, h => h.elim
  | .fn _, h => h.elim
  | .ty _, h => h.elim
  | .arr _, h => h.elim
  | .pro _, h => h.elim
  | .adr _, h => h.elim
  | .tab _ _ _, h => h.elim
structure Rl (K : PySem.W.Frag) (F H : Hp) (σ : L2.St) (ρ : Rho) : Prop where
  len : σ.length = ρ.length
  z : ∀ (i : Nat) (d : D), ρ[i]? = some (En.z d) → ∃ v, σ[i]? = some (some v) ∧ Rp K F v d
  o : ∀ (i : Nat) (d : D), ρ[i]? = some (En.o d) → ∃ p, σ[i]? = some (some (V.ref p)) ∧ F p = none ∧ OwnAt K F H p d
  ne : ∀ (i j : Nat) (d e : D) (p q : Addr), i ≠ j → ρ[i]? = some (En.o d) → ρ[j]? = some (En.o e) → σ[i]? = some (some (V.ref p)) → σ[j]? = some (some (V.ref q)) → p ≠ q
section
variable {K : PySem.W.Frag} {T : List (Addr × Str)} {F H F' H' : Hp} {σ : L2.St} {ρ : Rho}
theorem Rl.mono (n : Nx T F H F' H') (r : Rl K F H σ ρ) : Rl K F' H' σ ρ where
  len := r.len
  z := fun i d e => let ⟨v, h1, h2⟩ := r.z i d e; ⟨v, h1, h2.mono n.f⟩
  o := fun i d e => by
    obtain ⟨p, h1, h2, h3⟩ := r.o i d e
    obtain ⟨o, h4, h5⟩ := h3.solid
    exact ⟨p, h1, n.out h4 h5 h2 (fun xs z => h3.notTup (by rw [h4, z])), h3.mono n⟩
  ne := r.ne
theorem Rl.set {i : Nat} {v : V} {d : D} (r : Rl K F H σ ρ) (h : Rp K F v d) : Rl K F H (σ.set i (some v)) (ρ.set i (.z d)) where
  len := by rw [List.length_set, List.length_set]; exact r.len
  z := fun j e hj => by
    rw [List.getElem?_set] at hj ⊢
    by_cases hij : i = j
    · subst hij
      rw [if_pos rfl] at hj ⊢
      by_cases hl : i < ρ.length
      · rw [if_pos hl] at hj
        rw [if_pos (by rw [r.len]; exact hl)]
        cases hj
        exact ⟨v, rfl, h⟩
      · rw [if_neg hl] at hj; cases hj
    · rw [if_neg hij] at hj ⊢
      exact r.z j e hj
  o := fun j e hj => by
    rw [List.getElem?_set] at hj ⊢
    by_cases hij : i = j
    · subst hij
      rw [if_pos rfl] at hj
      by_cases hl : i < ρ.length
      · rw [if_pos hl] at hj; cases hj
      · rw [if_neg hl] at hj; cases hj
    · rw [if_neg hij] at hj ⊢
      exact r.o j e hj
  ne := fun j k a b p q hn h1 h2 h3 h4 => by
    rw [List.getElem?_set] at h1 h2 h3 h4
    have fj : i ≠ j := fun z => by
      rw [if_pos z] at h1; split at h1 <;> cases h1
    have fk : i ≠ k := fun z => by
      rw [if_pos z] at h2; split at h2 <;> cases h2
    rw [if_neg fj] at h1 h3
    rw [if_neg fk] at h2 h4
    exact r.ne j k a b p q hn h1 h2 h3 h4
theorem Rl.wipe1 {i : Nat} (r : Rl K F H σ ρ) : Rl K F H (σ.set i none) (ρ.set i .u) where
  len := by rw [List.length_set, List.length_set]; exact r.len
  z := fun j e hj => by
    rw [List.getElem?_set] at hj ⊢
    by_cases hij : i = j
    · subst hij
      rw [if_pos rfl] at hj
      split at hj <;> cases hj
    · rw [if_neg hij] at hj ⊢
      exact r.z j e hj
  o := fun j e hj => by
    rw [List.getElem?_set] at hj ⊢
    by_cases hij : i = j
    · subst hij
      rw [if_pos rfl] at hj
      split at hj <;> cases hj
    · rw [if_neg hij] at hj ⊢
      exact r.o j e hj
  ne := fun j k a b p q hn h1 h2 h3 h4 => by
    rw [List.getElem?_set] at h1 h2 h3 h4
    have fj : i ≠ j := fun z => by
      rw [if_pos z] at h1; split at h1 <;> cases h1
    have fk : i ≠ k := fun z => by
      rw [if_pos z] at h2; split at h2 <;> cases h2
    rw [if_neg fj] at h1 h3
    rw [if_neg fk] at h2 h4
    exact r.ne j k a b p q hn h1 h2 h3 h4
end

/-! ### readings by functions of data -/
/-- what is wanted behind: of an α that stands for the β -/
def aft {α β : Type} (R : Hp → α → β → Prop) (K : PySem.W.Frag) (T : List (Addr × Str)) (W : WX) (σ : L2.St) (F H : Hp) (Q : α → Hp → Prop) : Res β → Prop
  | .ok b => ∀ a F' H', Nx T F H F' H' → R F' a b → Q a H'
  | .ex n => ∀ F' H', Nx T F H F' H' → W (.ref (He.ga K n)) none σ H'
  | .bad => False
abbrev RBool : Hp → Bool → Bool → Prop := fun _ a b => a = b
/-- where one stands -/
structure At (K : PySem.W.Frag) (T : List (Addr × Str)) (F H : Hp) (σ : L2.St) (ρ : Rho) : Prop where
  z : Fz F H
  t : Tabs T H
  r : Rl K F H σ ρ
theorem At.nx {K : PySem.W.Frag} {T : List (Addr × Str)} {F H F' H' : Hp} {σ : L2.St} {ρ : Rho} (a : At K T F H σ ρ) (n : Nx T F H F' H') : At K T F' H' σ ρ := ⟨n.z, n.tab a.t, a.r.mono n⟩
def tG {α β : Type} (R : PySem.W.Frag → Hp → α → β → Prop) (K : PySem.W.Frag) (T : List (Addr × Str)) (W : WX) (f : Rho → Res β) : L2.St → Hp → (α → Hp → Prop) → Prop :=
  fun σ H Q => ∃ ρ F, At K T F H σ ρ ∧ aft (R K) K T W σ F H Q (f ρ)
def tE (K : PySem.W.Frag) (T : List (Addr × Str)) (W : WX) (f : Rho → Res D) : TE := tG Rp K T W f
def tA (K : PySem.W.Frag) (T : List (Addr × Str)) (W : WX) (f : Rho → Res (List D)) : TA := tG RpAll K T W f
def tT (K : PySem.W.Frag) (T : List (Addr × Str)) (W : WX) (f : Rho → Res Bool) : TT := tG (fun _ => RBool) K T W f
section
variable {K : PySem.W.Frag} {T : List (Addr × Str)} {W : WX} {σ : L2.St} {F H F' H' : Hp}
theorem aft.mono {α β : Type} {R : Hp → α → β → Prop} {Q : α → Hp → Prop} {r : Res β} (n : Nx T F H F' H') (h : aft R K T W σ F H Q r) : aft R K T W σ F' H' Q r := by
  cases r with
  | ok b => exact fun a F2 H2 n2 ra => h a F2 H2 (n.trans n2) ra
  | ex m => exact fun F2 H2 n2 => h F2 H2 (n.trans n2)
  | bad => exact h
theorem aft.imp {α β : Type} {R : Hp → α → β → Prop} {Q Q' : α → Hp → Prop} {r : Res β} (h : aft R K T W σ F H Q r) (hq : ∀ b, r = .ok b → ∀ a F' H', Nx T F H F' H' → R F' a b → Q a H' → Q' a H') : aft R K T W σ F H Q' r := by
  cases r with
  | ok b => exact fun a F2 H2 n ra => hq b rfl a F2 H2 n ra (h a F2 H2 n ra)
  | ex m => exact h
  | bad => exact h
/-- one thing behind another -/
theorem aft.bind {α β γ δ : Type} {R : Hp → α → β → Prop} {S : Hp → γ → δ → Prop} {Q : γ → Hp → Prop} {r : Res β} {k : β → Res δ} (h : aft S K T W σ F H Q (r.bind k)) :
    aft R K T W σ F H (fun a H1 => ∃ b F1, r = .ok b ∧ Nx T F H F1 H1 ∧ R F1 a b ∧ aft S K T W σ F1 H1 Q (k b)) r := by
  cases r with
  | ok b => exact fun a F2 H2 n ra => ⟨b, F2, rfl, n, ra, aft.mono n h⟩
  | ex m => exact h
  | bad => exact h
theorem aft.ok {α β : Type} {R : Hp → α → β → Prop} {Q : α → Hp → Prop} {b : β} {a : α} {F1 H1 : Hp} (h : aft R K T W σ F H Q (.ok b)) (n : Nx T F H F1 H1) (ra : R F1 a b) : Q a H1 := h a F1 H1 n ra
end
/-- a judgement is weakened -/
theorem _root_.L2.PE.to {X : Cx} {e : Expr} {t u : TE} (h : PE X e t) (k : ∀ σ H Q, u σ H Q → t σ H Q) : PE X e u := ⟨fun pins s σ H Q I q => h.run pins s σ H Q I (k σ H Q q)⟩
theorem _root_.L2.PT.to {X : Cx} {e : Expr} {t u : TT} (h : PT X e t) (k : ∀ σ H Q, u σ H Q → t σ H Q) : PT X e u := ⟨fun pins s σ H Q I q => h.run pins s σ H Q I (k σ H Q q)⟩
theorem _root_.L2.PW.to {X : Cx} {e : Expr} {t u : TT} (h : PW X e t) (k : ∀ σ H Q, u σ H Q → t σ H Q) : PW X e u := ⟨fun whole pins s σ H Q I q => h.run whole pins s σ H Q I (k σ H Q q)⟩
theorem _root_.L2.PA.to {X : Cx} {es : List Expr} {t u : TA} (h : PA X es t) (k : ∀ σ H Q, u σ H Q → t σ H Q) : PA X es u := ⟨fun pos pins s σ H Q I q => h.run pos pins s σ H Q I (k σ H Q q)⟩
theorem _root_.L2.PS.to {X : Cx} {st : Stmt} {t u : TS} (h : PS X st t) (k : ∀ D σ H, u D σ H → t D σ H) : PS X st u := ⟨fun pins s σ H D I q => h.run pins s σ H D I (k D σ H q)⟩
theorem _root_.L2.PSs.to {X : Cx} {st : List Stmt} {t u : TS} (h : PSs X st t) (k : ∀ D σ H, u D σ H → t D σ H) : PSs X st u := ⟨fun pins s σ H D I q => h.run pins s σ H D I (k D σ H q)⟩

/-! ### names, constants, arguments -/
section
variable {X : Cx} {T : List (Addr × Str)} {W : WX}
abbrev DE (X : Cx) (T : List (Addr × Str)) (W : WX) (e : Expr) (f : Rho → Res D) : Prop := PE X e (tE X.K T W f)
abbrev DQ (X : Cx) (T : List (Addr × Str)) (W : WX) (e : Expr) (f : Rho → Res Bool) : Prop := PT X e (tT X.K T W f)
abbrev DW (X : Cx) (T : List (Addr × Str)) (W : WX) (e : Expr) (f : Rho → Res Bool) : Prop := PW X e (tT X.K T W f)
abbrev DA (X : Cx) (T : List (Addr × Str)) (W : WX) (es : List Expr) (f : Rho → Res (List D)) : Prop := PA X es (tA X.K T W f)

def var (i : Nat) : Rho → Res D := fun ρ => match ρ[i]? with
  | some (.z d) => .ok d
  | _ => .bad
theorem e_var {i : Nat} {x : Str} {pos : Pos} (h : PE X (.Name x pos) (tVar i)) : DE X T W (.Name x pos) (var i) := h.to fun σ H Q hq => by
  obtain ⟨ρ, F, a, h⟩ := hq
  unfold var at h
  cases e : ρ[i]? with
  | none => rw [e] at h; exact h.elim
  | some en =>
    rw [e] at h
    cases en with
    | u => exact h.elim
    | o d => exact h.elim
    | z d =>
      obtain ⟨v, h1, h2⟩ := a.r.z i d e
      exact ⟨v, h1, h v F H (Nx.refl a.z) h2⟩
def con (d : D) : Rho → Res D := fun _ => .ok d
theorem e_c {e : Expr} {v : V} {d : D} (h : PE X e (tC v)) (r : ∀ F, Rp X.K F v d) : DE X T W e (con d) := h.to fun σ H Q ⟨ρ, F, a, h⟩ => h v F H (Nx.refl a.z) (r F)
theorem e_int {i j pos} : DE X T W (.Constant (.int i) j pos) (con (.int i)) := e_c pe_int fun _ => .int i
theorem e_bl {b j pos} : DE X T W (.Constant (.bool b) j pos) (con (.bl b)) := e_c pe_bl fun _ => .bl b
theorem e_str {x j pos} : DE X T W (.Constant (.str x) j pos) (con (.str x)) := e_c pe_str fun _ => .str x

def anil : Rho → Res (List D) := fun _ => .ok []
def acons (f : Rho → Res D) (g : Rho → Res (List D)) : Rho → Res (List D) := fun ρ => (f ρ).bind fun d => (g ρ).bind fun ds => .ok (d :: ds)
theorem a_nil : DA X T W [] anil := pa_nil.to fun σ H Q ⟨ρ, F, a, h⟩ => h [] F H (Nx.refl a.z) .nil
theorem a_cons {e : Expr} {es : List Expr} {f : Rho → Res D} {g : Rho → Res (List D)} (he : DE X T W e f) (hs : DA X T W es g) (hstar : starEach (e :: es) X.env = (false, eval e X.env) :: starEach es X.env := by rfl) : DA X T W (e :: es) (acons f g) :=
  (pa_cons he hs hstar).to fun σ H Q ⟨ρ, F, a, h⟩ => by
    refine ⟨ρ, F, a, (aft.bind (R := Rp X.K) h).imp fun d _ v F1 H1 _ _ q => ?_⟩
    obtain ⟨b, F2, _, n, rv, q⟩ := q
    refine ⟨ρ, F2, a.nx n, (aft.bind (R := RpAll X.K) q).imp fun ds _ vs F3 H3 _ _ q => ?_⟩
    obtain ⟨ds', F4, _, n2, rs, q⟩ := q
    exact q.ok (Nx.refl n2.z) (.cons (rv.mono n2.f) rs)
end
end DN
namespace DN
open PySem PySem.Spec PyProof.Rows L2
open LamX (Tabs ExtN)
open PySem.Builtin.Str (tooLong)

/-! ### operators -/
/-- an operation on values, by a function of data -/
def rD2 (K : PySem.W.Frag) (T : List (Addr × Str)) (G : D → D → Option D) : R2 := fun x y H Q =>
  ∃ F d e z, Fz F H ∧ Rp K F x d ∧ Rp K F y e ∧ G d e = some z ∧ ∀ v F' H', Nx T F H F' H' → Rp K F' v z → Q v H'
def rD1 (K : PySem.W.Frag) (T : List (Addr × Str)) (G : D → Option D) : V → Hp → VK → Prop := fun x H Q =>
  ∃ F d z, Fz F H ∧ Rp K F x d ∧ G d = some z ∧ ∀ v F' H', Nx T F H F' H' → Rp K F' v z → Q v H'
def rDn (K : PySem.W.Frag) (T : List (Addr × Str)) (G : List D → Option D) : List V → Hp → VK → Prop := fun xs H Q =>
  ∃ F ds z, Fz F H ∧ RpAll K F xs ds ∧ G ds = some z ∧ ∀ v F' H', Nx T F H F' H' → Rp K F' v z → Q v H'
def bop (G : D → D → Option D) (f g : Rho → Res D) : Rho → Res D := fun ρ => (f ρ).bind fun d => (g ρ).bind fun e => ofO (G d e)
def una (G : D → Option D) (f : Rho → Res D) : Rho → Res D := fun ρ => (f ρ).bind fun d => ofO (G d)
def cal (G : List D → Option D) (f : Rho → Res (List D)) : Rho → Res D := fun ρ => (f ρ).bind fun ds => ofO (G ds)
section
variable {X : Cx} {T : List (Addr × Str)} {W : WX}
theorem ofO_ok {α : Type} {o : Option α} {K : PySem.W.Frag} {σ : L2.St} {F H : Hp} {β : Type} {R : Hp → β → α → Prop} {Q : β → Hp → Prop} (h : aft R K T W σ F H Q (ofO o)) : ∃ a, o = some a ∧ ∀ b F' H', Nx T F H F' H' → R F' b a → Q b H' := by
  cases o with
  | none => exact h.elim
  | some a => exact ⟨a, rfl, h⟩
theorem bin_to {K : PySem.W.Frag} {G : D → D → Option D} {f g : Rho → Res D} {σ : L2.St} {H : Hp} {Q : VK} (h : tE K T W (bop G f g) σ H Q) : tOp (rD2 K T G) (tE K T W f) (tE K T W g) σ H Q := by
  obtain ⟨ρ, F, a, h⟩ := h
  refine ⟨ρ, F, a, (aft.bind (R := Rp K) h).imp fun d _ v F1 H1 _ _ q => ?_⟩
  obtain ⟨b, F2, _, n, rv, q⟩ := q
  refine ⟨ρ, F2, a.nx n, (aft.bind (R := Rp K) q).imp fun ds _ vs F3 H3 _ _ q => ?_⟩
  obtain ⟨e, F4, _, n2, rs, q⟩ := q
  obtain ⟨z, hz, q⟩ := ofO_ok q
  exact ⟨F4, b, e, z, n2.z, rv.mono n2.f, rs, hz, q⟩
theorem e_bin {op : Operator} {G : D → D → Option D} {a b : Expr} {f g : Rho → Res D} {pos : Pos} (ho : OpR X (binaryOp op) (rD2 X.K T G)) (ha : DE X T W a f) (hb : DE X T W b g) : DE X T W (.BinOp a op b pos) (bop G f g) :=
  (pe_op ho ha hb).to fun _ _ _ h => bin_to h
theorem e_una {op : UnaryOp} {G : D → Option D} {a : Expr} {f : Rho → Res D} {pos : Pos} (ho : UnR X (unaryOp op) (rD1 X.K T G)) (ha : DE X T W a f) : DE X T W (.UnaryOp op a pos) (una G f) :=
  (pe_un ho ha).to fun σ H Q ⟨ρ, F, a, h⟩ => by
    refine ⟨ρ, F, a, (aft.bind (R := Rp X.K) h).imp fun d _ v F1 H1 _ _ q => ?_⟩
    obtain ⟨b, F2, _, n, rv, q⟩ := q
    obtain ⟨z, hz, q⟩ := ofO_ok q
    exact ⟨F2, b, z, n.z, rv, hz, q⟩
theorem e_cmp {op : CmpOp} {G : D → D → Option D} {a b : Expr} {f g : Rho → Res D} {pos : Pos} (ho : OpR X (compareOp op) (rD2 X.K T G)) (ha : DE X T W a f) (hb : DE X T W b g) (hm : behindInMarks op b = false) : DE X T W (.Compare a [op] [b] pos) (bop G f g) :=
  (pe_cmpR ho ha hb hm).to fun _ _ _ h => bin_to h
/-- a comparison's answer -/
def ans : D → Res Bool
  | .bl b => .ok b
  | _ => .bad
def tst (f : Rho → Res D) : Rho → Res Bool := fun ρ => (f ρ).bind ans
theorem tst_to {K : PySem.W.Frag} {f : Rho → Res D} {σ : L2.St} {H : Hp} {Q : Bool → Hp → Prop} (h : tT K T W (tst f) σ H Q) : tE K T W f σ H fun x H' => ∃ k, x = .bl k ∧ Q k H' := by
  obtain ⟨ρ, F, a, h⟩ := h
  refine ⟨ρ, F, a, (aft.bind (R := Rp K) h).imp fun d _ v F1 H1 _ _ q => ?_⟩
  obtain ⟨b, F2, _, n, rv, q⟩ := q
  cases b with
  | bl k =>
    cases rv
    exact ⟨k, rfl, q k F2 H1 (Nx.refl n.z) rfl⟩
  | _ => exact q.elim
theorem q_cmp {op : CmpOp} {G : D → D → Option D} {a b : Expr} {f g : Rho → Res D} {pos : Pos} (ho : OpR X (compareOp op) (rD2 X.K T G)) (ha : DE X T W a f) (hb : DE X T W b g) (hm : behindInMarks op b = false) : DQ X T W (.Compare a [op] [b] pos) (tst (bop G f g)) :=
  (pt_cmpR ho ha hb hm).to fun σ H Q h => by
    have h2 := tst_to h
    exact bin_to h2
end

/-! the operators' functions -/
def CMulD (i j : Int) : Prop := CMul i j ∨ CMulW i j
instance : Decidable (CMulD i j) := by unfold CMulD CMul CMulW; infer_instance
instance : Decidable (CDivW i j) := by unfold CDivW; infer_instance
def repS (x : Str) (n : Int) : Str := ⟨((List.replicate n.toNat x.cps.toList).flatten).toArray⟩
def addD : D → D → Option D
  | .int i, .int j => some (.int (i + j))
  | .str x, .str y => if x.length + y.length ≤ sizeLine then some (.str (x ++ y)) else none
  | .tup xs, .tup ys => if xs.length + ys.length ≤ sizeLine then some (.tup (xs ++ ys)) else none
  | .lst xs, .lst ys => if xs.length + ys.length ≤ sizeLine then some (.lst (xs ++ ys)) else none
  | _, _ => none
def subD : D → D → Option D
  | .int i, .int j => some (.int (i - j))
  | _, _ => none
def mulD : D → D → Option D
  | .int i, .int j => if CMulD i j then some (.int (i * j)) else none
  | .str x, .int n => if n ≤ 1000000 ∧ -1000000 ≤ n ∧ x.length * n.toNat ≤ 1000000 then some (.str (repS x n)) else none
  | .tup xs, .int k => if 2 ≤ k ∧ k ≤ 1000 ∧ xs.isEmpty = false ∧ xs.length ≤ 1000 then some (.tup (List.replicate k.toNat xs).flatten) else none
  | _, _ => none
def divD : D → D → Option D
  | .int i, .int j => if CDivW i j then some (.int (i / j)) else none
  | _, _ => none
def modD : D → D → Option D
  | .int i, .int j => if 0 < j then some (.int (i % j)) else none
  | _, _ => none
def negD : D → Option D
  | .int i => some (.int (-i))
  | _ => none
def ltD : D → D → Option D
  | .int i, .int j => some (.bl (decide (i < j)))
  | _, _ => none
def leD : D → D → Option D
  | .int i, .int j => some (.bl (decide (i ≤ j)))
  | _, _ => none
def gtD : D → D → Option D
  | .int i, .int j => some (.bl (decide (j < i)))
  | _, _ => none
def geD : D → D → Option D
  | .int i, .int j => some (.bl (decide (j ≤ i)))
  | _, _ => none
section
variable {X : Cx} {T : List (Addr × Str)} {W : WX}
theorem done0 {K : PySem.W.Frag} {F H : Hp} {z : D} {v : V} {Q : VK} (hz : Fz F H) (q : ∀ v F' H', Nx T F H F' H' → Rp K F' v z → Q v H') (r : Rp K F v z) : Q v H := q v F H (Nx.refl hz) r
theorem donep {K : PySem.W.Frag} {F H : Hp} {z : D} {p : Addr} {o : HO} {Q : VK} (hz : Fz F H) (hp : H p = none) (ho : ∀ ps, o ≠ .tbl ps) (q : ∀ v F' H', Nx T F H F' H' → Rp K F' v z → Q v H') (r : Rp K (upd F p o) (.ref p) z) : Q (.ref p) (upd H p o) :=
  q _ _ _ (Nx.push hz hp ho) r
theorem rp_tup {K : PySem.W.Frag} {F H : Hp} {p : Addr} {xs : List V} {ds : List D} (hz : Fz F H) (hp : H p = none) (r : RpAll K F xs ds) : Rp K (upd F p (.tup xs)) (.ref p) (.tup ds) :=
  .tup (.inl (.inl upd_same)) (r.mono (Nx.push (T := []) (o := .tup xs) hz hp (fun ps z => by cases z)).f)
theorem rp_lst {K : PySem.W.Frag} {F H : Hp} {p : Addr} {xs : List V} {ds : List D} (hz : Fz F H) (hp : H p = none) (r : RpAll K F xs ds) : Rp K (upd F p (.lst xs)) (.ref p) (.lst ds) :=
  .lst upd_same (r.mono (Nx.push (T := []) (o := .lst xs) hz hp (fun ps z => by cases z)).f)
theorem ntT {xs : List V} : ∀ ps, HO.tup xs ≠ .tbl ps := fun _ z => by cases z
theorem ntL {xs : List V} : ∀ ps, HO.lst xs ≠ .tbl ps := fun _ z => by cases z
theorem RpAll.nil_iff {K : PySem.W.Frag} {F : Hp} {xs : List V} {ds : List D} (r : RpAll K F xs ds) : xs = [] ↔ ds = [] := by
  cases r with
  | nil => simp
  | cons _ _ => simp
theorem o_add : OpR X (binaryOp .Add) (rD2 X.K T addD) := by
  intro pins s σ H x y v u Q I rx ry h
  obtain ⟨F, d, e, z, hz, rd, re, hG, q⟩ := h
  cases rd with
  | int i =>
    cases re with
    | int j => cases hG; exact op_add pins s σ H _ _ v u Q I rx ry ⟨i, j, rfl, rfl, done0 hz q (.int _)⟩
    | _ => cases hG
  | str i =>
    cases re with
    | str j =>
      have hG : (if i.length + j.length ≤ sizeLine then some (D.str (i ++ j)) else none) = some z := hG
      split at hG
      · rename_i hl
        cases hG
        exact op_add_str pins s σ H _ _ v u Q I rx ry ⟨i, j, rfl, rfl, hl, done0 hz q (.str _)⟩
      · cases hG
    | _ => cases hG
  | tup h1 r1 =>
    cases re with
    | tup h2 r2 =>
      rename_i a xs ds b ys es
      have hG : (if ds.length + es.length ≤ sizeLine then some (D.tup (ds ++ es)) else none) = some z := hG
      split at hG
      · rename_i hl
        cases hG
        refine op_catA pins s σ H _ _ v u Q I rx ry ⟨a, b, xs, ys, rfl, rfl, hz.sub.st h1, hz.sub.st h2, by rw [r1.length, r2.length]; exact hl, fun e => ?_, fun e1 e2 => ?_, fun e1 e2 p hp => ?_⟩
        · have e' := r1.nil_iff.mp e
          subst e'
          exact done0 hz q (.tup h2 r2)
        · have e' := r2.nil_iff.mp e2
          subst e'
          rw [List.append_nil] at q
          exact done0 hz q (.tup h1 r1)
        · exact donep hz hp ntT q (rp_tup hz hp (r1.append r2))
      · cases hG
    | _ => cases hG
  | lst h1 r1 =>
    cases re with
    | lst h2 r2 =>
      rename_i a xs ds b ys es
      have hG : (if ds.length + es.length ≤ sizeLine then some (D.lst (ds ++ es)) else none) = some z := hG
      split at hG
      · rename_i hl
        cases hG
        exact op_cat pins s σ H _ _ v u Q I rx ry ⟨a, b, xs, ys, rfl, rfl, hz.sub _ _ h1, hz.sub _ _ h2, by rw [r1.length, r2.length]; exact hl, fun p hp => donep hz hp ntL q (rp_lst hz hp (r1.append r2))⟩
      · cases hG
    | _ => cases hG
  | _ => cases hG
theorem o_sub : OpR X (binaryOp .Sub) (rD2 X.K T subD) := by
  intro pins s σ H x y v u Q I rx ry h
  obtain ⟨F, d, e, z, hz, rd, re, hG, q⟩ := h
  cases rd with
  | int i =>
    cases re with
    | int j => cases hG; exact op_sub pins s σ H _ _ v u Q I rx ry ⟨i, j, rfl, rfl, done0 hz q (.int _)⟩
    | _ => cases hG
  | _ => cases hG
theorem foldA (x : Array Nat) : ∀ (n : Nat) (acc : Array Nat), (List.replicate n x).foldl (· ++ ·) acc = (acc.toList ++ (List.replicate n x.toList).flatten).toArray
  | 0, acc => by simp
  | n + 1, acc => by
    rw [List.replicate_succ, List.foldl_cons, foldA x n]
    simp [List.replicate_succ]
theorem fold_rep (x : Array Nat) (n : Nat) : (List.replicate n x).foldl (· ++ ·) #[] = ((List.replicate n x.toList).flatten).toArray := by
  rw [foldA]; simp
theorem sizeLine_val : (sizeLine : Nat) = 16777216 := sizeLine_eq
theorem o_mul_str {pins : List (Addr × Obj)} {s : Shared} {σ : L2.St} {H : Hp} {Q : VK} {x : Str} {n : Int} {t u : Tok} (I : Inv X pins σ H s) (h1 : n ≤ 1000000) (h2 : -1000000 ≤ n) (h3 : x.length * n.toNat ≤ 1000000) (q : Q (.str (repS x n)) H) :
    wpAny (model X.prog X.w) X.A (binaryOp .Mult (.str x t) (.int n u)) (EP X pins σ Q) X.xe s := by
  have tl : tooLong (x.length * n.toNat) = false := by
    unfold tooLong
    refine decide_eq_false ?_
    rw [sizeLine_val]
    omega
  refine PySem.P.mul_str (by rw [decide_eq_false (by omega), decide_eq_false (by omega)]; rfl) (fun g1 g2 => ?_) (fun _ _ => tl) ?_
  · intro hgt
    have hx : x.length ≤ 1000000 := by
      have hn : 1 ≤ n.toNat := by omega
      have := Nat.mul_le_mul_left x.length hn
      omega
    have hd : (2 ^ 63 - 1) / 1000000 ≤ (2 ^ 63 - 1 : Int) / n := by
      apply Int.le_ediv_of_mul_le (by omega)
      have : ((2 ^ 63 - 1 : Int) / 1000000) * n ≤ ((2 ^ 63 - 1 : Int) / 1000000) * 1000000 := Int.mul_le_mul_of_nonneg_left h1 (by decide)
      exact Int.le_trans this (by decide)
    have h0 : (1000000 : Int) ≤ (2 ^ 63 - 1) / 1000000 := by decide
    omega
  · by_cases g1 : n < 1
    · rw [if_pos g1]
      have e : repS x n = Str.empty := by
        unfold repS
        rw [show n.toNat = 0 by omega] <;> rfl
      rw [e] at q
      exact ⟨by decide, ⟨.str Str.empty, H, I.tok _, ⟨_, rfl⟩, q⟩⟩
    · rw [if_neg g1]
      by_cases g2 : (n == 1 || x.length == 0) = true
      · rw [if_pos g2]
        have e : repS x n = x := by
          unfold repS
          rw [Bool.or_eq_true, beq_iff_eq, beq_iff_eq] at g2
          rcases g2 with g | g
          · subst g
            show (⟨(([x.cps.toList] : List (List Nat)).flatten).toArray⟩ : Str) = x
            simp
          · have : x.cps = #[] := Array.eq_empty_of_size_eq_zero g
            cases x
            simp only at this
            subst this
            simp
        rw [e] at q
        exact ⟨.str x, H, I, ⟨_, rfl⟩, q⟩
      · rw [if_neg g2, fold_rep]
        refine ⟨?_, ⟨.str (repS x n), H, I.tok _, ⟨_, rfl⟩, q⟩⟩
        rw [sizeLine_val]
        show ((List.replicate n.toNat x.cps.toList).flatten).toArray.size ≤ _
        rw [List.size_toArray, List.length_flatten]
        simp
        have e : n.toNat * x.cps.size = x.length * n.toNat := Nat.mul_comm _ _
        rw [e]
        omega
theorem o_mul : OpR X (binaryOp .Mult) (rD2 X.K T mulD) := by
  intro pins s σ H x y v u Q I rx ry h
  obtain ⟨F, d, e, z, hz, rd, re, hG, q⟩ := h
  cases rd with
  | int i =>
    cases re with
    | int j =>
      have hG : (if CMulD i j then some (D.int (i * j)) else none) = some z := hG
      split at hG
      · rename_i hc
        cases hG
        rcases hc with hc | hc
        · exact op_mul pins s σ H _ _ v u Q I rx ry ⟨i, j, rfl, rfl, hc, done0 hz q (.int _)⟩
        · exact op_mulW pins s σ H _ _ v u Q I rx ry ⟨i, j, rfl, rfl, hc, done0 hz q (.int _)⟩
      · cases hG
    | _ => cases hG
  | str x =>
    cases re with
    | int n =>
      have hG : (if n ≤ 1000000 ∧ -1000000 ≤ n ∧ x.length * n.toNat ≤ 1000000 then some (D.str (repS x n)) else none) = some z := hG
      split at hG
      · rename_i hc
        cases hG
        obtain ⟨t, rfl⟩ := rx
        obtain ⟨t', rfl⟩ := ry
        exact o_mul_str I hc.1 hc.2.1 hc.2.2 (done0 hz q (.str _))
      · cases hG
    | _ => cases hG
  | tup h1 r1 =>
    cases re with
    | int k =>
      rename_i a xs ds
      have hG : (if 2 ≤ k ∧ k ≤ 1000 ∧ ds.isEmpty = false ∧ ds.length ≤ 1000 then some (D.tup (List.replicate k.toNat ds).flatten) else none) = some z := hG
      split at hG
      · rename_i hc
        cases hG
        obtain ⟨c1, c2, c3, c4⟩ := hc
        have many : ∀ n, RpAll X.K F (List.replicate n xs).flatten (List.replicate n ds).flatten := fun n => by
          induction n with
          | zero => exact .nil
          | succ n ih => simpa [List.replicate_succ] using r1.append ih
        have some_ : xs ≠ [] := fun z => by
          subst z
          cases r1
          cases c3
        exact op_repT pins s σ H _ _ v u Q I rx ry ⟨a, k, xs, rfl, rfl, hz.sub.st h1, some_, c1, c2, by rw [r1.length]; exact c4, fun p hp => donep hz hp ntT q (rp_tup hz hp (many _))⟩
      · cases hG
    | _ => cases hG
  | _ => cases hG
theorem o_div : OpR X (binaryOp .FloorDiv) (rD2 X.K T divD) := by
  intro pins s σ H x y v u Q I rx ry h
  obtain ⟨F, d, e, z, hz, rd, re, hG, q⟩ := h
  cases rd with
  | int i =>
    cases re with
    | int j =>
      have hG : (if CDivW i j then some (D.int (i / j)) else none) = some z := hG
      split at hG
      · rename_i hc
        cases hG
        exact op_fdivW pins s σ H _ _ v u Q I rx ry ⟨i, j, rfl, rfl, hc, done0 hz q (.int _)⟩
      · cases hG
    | _ => cases hG
  | _ => cases hG
theorem o_mod : OpR X (binaryOp .Mod) (rD2 X.K T modD) := by
  intro pins s σ H x y v u Q I rx ry h
  obtain ⟨F, d, e, z, hz, rd, re, hG, q⟩ := h
  cases rd with
  | int i =>
    cases re with
    | int j =>
      have hG : (if 0 < j then some (D.int (i % j)) else none) = some z := hG
      split at hG
      · rename_i hc
        cases hG
        exact op_mod pins s σ H _ _ v u Q I rx ry ⟨i, j, rfl, rfl, hc, done0 hz q (.int _)⟩
      · cases hG
    | _ => cases hG
  | _ => cases hG
theorem u_neg : UnR X (unaryOp .USub) (rD1 X.K T negD) := by
  intro pins s σ H x v Q I rx h
  obtain ⟨F, d, z, hz, rd, hG, q⟩ := h
  cases rd with
  | int i => cases hG; exact un_neg pins s σ H _ v Q I rx ⟨i, rfl, done0 hz q (.int _)⟩
  | _ => cases hG
theorem o_lt : OpR X (compareOp .Lt) (rD2 X.K T ltD) := by
  intro pins s σ H x y v u Q I rx ry h
  obtain ⟨F, d, e, z, hz, rd, re, hG, q⟩ := h
  cases rd with
  | int i =>
    cases re with
    | int j => cases hG; exact op_lt pins s σ H _ _ v u Q I rx ry ⟨i, j, rfl, rfl, done0 hz q (.bl _)⟩
    | _ => cases hG
  | _ => cases hG
theorem o_le : OpR X (compareOp .LtE) (rD2 X.K T leD) := by
  intro pins s σ H x y v u Q I rx ry h
  obtain ⟨F, d, e, z, hz, rd, re, hG, q⟩ := h
  cases rd with
  | int i =>
    cases re with
    | int j => cases hG; exact op_le pins s σ H _ _ v u Q I rx ry ⟨i, j, rfl, rfl, done0 hz q (.bl _)⟩
    | _ => cases hG
  | _ => cases hG
theorem o_gt : OpR X (compareOp .Gt) (rD2 X.K T gtD) := by
  intro pins s σ H x y v u Q I rx ry h
  obtain ⟨F, d, e, z, hz, rd, re, hG, q⟩ := h
  cases rd with
  | int i =>
    cases re with
    | int j => cases hG; exact op_gt pins s σ H _ _ v u Q I rx ry ⟨i, j, rfl, rfl, done0 hz q (.bl _)⟩
    | _ => cases hG
  | _ => cases hG
theorem o_ge : OpR X (compareOp .GtE) (rD2 X.K T geD) := by
  intro pins s σ H x y v u Q I rx ry h
  obtain ⟨F, d, e, z, hz, rd, re, hG, q⟩ := h
  cases rd with
  | int i =>
    cases re with
    | int j => cases hG; exact op_ge pins s σ H _ _ v u Q I rx ry ⟨i, j, rfl, rfl, done0 hz q (.bl _)⟩
    | _ => cases hG
  | _ => cases hG
end
end DN
namespace DN
open PySem PySem.Spec PyProof.Rows L2
open LamX (Tabs ExtN)

/-! ### tests, and, or, not, chains -/
def andQ (f g : Rho → Res Bool) : Rho → Res Bool := fun ρ => (f ρ).bind fun b => if b = true then g ρ else .ok false
def orQ (f g : Rho → Res Bool) : Rho → Res Bool := fun ρ => (f ρ).bind fun b => if b = true then .ok true else g ρ
def notQ (f : Rho → Res Bool) : Rho → Res Bool := fun ρ => (f ρ).bind fun b => .ok (!b)
def andE (f g : Rho → Res D) : Rho → Res D := fun ρ => (f ρ).bind fun d => (ans d).bind fun b => if b = true then g ρ else .ok (.bl false)
def orE (f g : Rho → Res D) : Rho → Res D := fun ρ => (f ρ).bind fun d => (ans d).bind fun b => if b = true then .ok (.bl true) else g ρ
def notE (f : Rho → Res D) : Rho → Res D := fun ρ => (f ρ).bind fun d => (ans d).bind fun b => .ok (.bl (!b))
def chn (G G' : D → D → Option D) (f g h : Rho → Res D) : Rho → Res D := fun ρ => (f ρ).bind fun d => (g ρ).bind fun e => (ofO (G d e)).bind fun z => (ans z).bind fun k => if k = true then (h ρ).bind fun c => ofO (G' e c) else .ok (.bl false)
section
variable {X : Cx} {T : List (Addr × Str)} {W : WX}
theorem q_val {e : Expr} {f : Rho → Res D} (h : DE X T W e f) (he : ∀ whole, isTrue e X.env whole = (do let v ← whole; standAt e.pos; holding [v] (truthy v)) := by intro _; rfl) : DQ X T W e (tst f) :=
  (pt_val h he).to fun _ _ _ h => tst_to h
theorem w_or1 {a : Expr} {pos : Pos} {f : Rho → Res Bool} (h : DQ X T W a f) : DW X T W (.BoolOp .Or [a] pos) f := pw_or1 h
theorem w_or {a b : Expr} {rest : List Expr} {pos : Pos} {f g : Rho → Res Bool} (h : DQ X T W a f) (h2 : DW X T W (.BoolOp .Or (b :: rest) pos) g) : DW X T W (.BoolOp .Or (a :: b :: rest) pos) (orQ f g) :=
  (pw_or h h2).to fun σ H Q ⟨ρ, F, a, h⟩ => by
    refine ⟨ρ, F, a, (aft.bind (R := RBool) h).imp fun d _ v F1 H1 _ _ q => ?_⟩
    obtain ⟨b, F2, _, n, rv, q⟩ := q
    obtain rfl : v = b := rv
    cases v with
    | true => exact q.ok (Nx.refl n.z) rfl
    | false => exact ⟨ρ, F2, a.nx n, q⟩
theorem q_w {e : Expr} {f : Rho → Res Bool} (h : DW X T W e f) : DQ X T W e f := PW.pt h
theorem q_not {a : Expr} {pos : Pos} {f : Rho → Res Bool} (h : DQ X T W a f) : DQ X T W (.UnaryOp .Not a pos) (notQ f) :=
  (pt_not h).to fun σ H Q ⟨ρ, F, a, h⟩ => by
    refine ⟨ρ, F, a, (aft.bind (R := RBool) h).imp fun d _ v F1 H1 _ _ q => ?_⟩
    obtain ⟨b, F2, _, n, rv, q⟩ := q
    obtain rfl : v = b := rv
    exact q.ok (Nx.refl n.z) rfl
theorem e_one {op} {a : Expr} {pos : Pos} {f : Rho → Res D} (h : DE X T W a f) : DE X T W (.BoolOp op [a] pos) f := pe_one h
theorem bool_of {K : PySem.W.Frag} {σ : L2.St} {F H : Hp} {α β : Type} {R : Hp → α → β → Prop} {Q : α → Hp → Prop} {d : D} {v : V} {k : Bool → Res β} (rv : Rp K F v d) (q : aft R K T W σ F H Q ((ans d).bind k)) : ∃ c, v = .bl c ∧ d = .bl c ∧ aft R K T W σ F H Q (k c) := by
  cases rv with
  | bl c => exact ⟨c, rfl, rfl, q⟩
  | _ => exact q.elim
theorem e_and {a b : Expr} {rest : List Expr} {pos : Pos} {f g : Rho → Res D} (h : DE X T W a f) (h2 : DE X T W (.BoolOp .And (b :: rest) pos) g) : DE X T W (.BoolOp .And (a :: b :: rest) pos) (andE f g) :=
  (pe_and h h2).to fun σ H Q ⟨ρ, F, a, h⟩ => by
    refine ⟨ρ, F, a, (aft.bind (R := Rp X.K) h).imp fun d _ v F1 H1 _ _ q => ?_⟩
    obtain ⟨b, F2, _, n, rv, q⟩ := q
    obtain ⟨c, rfl, rfl, q⟩ := bool_of rv q
    refine ⟨c, rfl, ?_⟩
    cases c with
    | true => exact ⟨ρ, F2, a.nx n, q⟩
    | false => exact q.ok (Nx.refl n.z) (.bl false)
theorem e_or {a b : Expr} {rest : List Expr} {pos : Pos} {f g : Rho → Res D} (h : DE X T W a f) (h2 : DE X T W (.BoolOp .Or (b :: rest) pos) g) : DE X T W (.BoolOp .Or (a :: b :: rest) pos) (orE f g) :=
  (pe_or h h2).to fun σ H Q ⟨ρ, F, a, h⟩ => by
    refine ⟨ρ, F, a, (aft.bind (R := Rp X.K) h).imp fun d _ v F1 H1 _ _ q => ?_⟩
    obtain ⟨b, F2, _, n, rv, q⟩ := q
    obtain ⟨c, rfl, rfl, q⟩ := bool_of rv q
    refine ⟨c, rfl, ?_⟩
    cases c with
    | true => exact q.ok (Nx.refl n.z) (.bl true)
    | false => exact ⟨ρ, F2, a.nx n, q⟩
end

/-! ### displays, subscripts, slices -/
def mkT (f : Rho → Res (List D)) : Rho → Res D := fun ρ => (f ρ).bind fun ds => if ds.length ≤ sizeLine then .ok (.tup ds) else .bad
def mkL (f : Rho → Res (List D)) : Rho → Res D := fun ρ => (f ρ).bind fun ds => if ds.length ≤ sizeLine then .ok (.lst ds) else .bad
def ixD : D → D → Option D
  | .tup xs, .int i => atI xs i
  | .lst xs, .int i => atI xs i
  | .arr ns, .int i => (atI ns i).map .int
  | .str x, .int i => if x.length ≤ sizeLine then (atI x.cps.toList i).map fun c => .str ⟨#[c]⟩ else none
  | _, _ => none
def cutD (xs : List D) (lo hi : Option Int) : List D := (xs.drop (HT.sIx xs.length 0 lo)).take (HT.sIx xs.length xs.length hi - HT.sIx xs.length 0 lo)
def slD : D → Option Int → Option Int → Option D
  | .tup xs, lo, hi => some (.tup (cutD xs lo hi))
  | .lst xs, lo, hi => some (.lst (cutD xs lo hi))
  | .str x, lo, hi => if x.length ≤ sizeLine then some (.str (cutS x lo hi)) else none
  | _, _, _ => none
def pno : Rho → Res (Option Int) := fun _ => .ok none
def intO : D → Res (Option Int)
  | .int i => .ok (some i)
  | _ => .bad
def psm (f : Rho → Res D) : Rho → Res (Option Int) := fun ρ => (f ρ).bind intO
def slc (f : Rho → Res D) (g h : Rho → Res (Option Int)) : Rho → Res D := fun ρ => (f ρ).bind fun d => (g ρ).bind fun lo => (h ρ).bind fun hi => ofO (slD d lo hi)
section
variable {X : Cx} {T : List (Addr × Str)} {W : WX}
theorem e_tup {es : List Expr} {x1} {pos : Pos} {f : Rho → Res (List D)} (h : DA X T W es f) : DE X T W (.Tuple es x1 pos) (mkT f) :=
  (pe_tup h).to fun σ H Q ⟨ρ, F, a, h⟩ => by
    refine ⟨ρ, F, a, (aft.bind (R := RpAll X.K) h).imp fun d _ v F1 H1 _ _ q => ?_⟩
    obtain ⟨ds, F2, _, n, rv, q⟩ := q
    have q : aft (Rp X.K) X.K T W σ F2 H1 Q (if ds.length ≤ sizeLine then .ok (.tup ds) else .bad) := q
    split at q
    · rename_i hl
      exact ⟨by rw [rv.length]; exact hl, fun p hp => q _ _ _ (Nx.push n.z hp ntT) (rp_tup n.z hp rv)⟩
    · exact q.elim
theorem e_lst {es : List Expr} {pos : Pos} {f : Rho → Res (List D)} (h : DA X T W es f) : DE X T W (.List es pos) (mkL f) :=
  (pe_lst h).to fun σ H Q ⟨ρ, F, a, h⟩ => by
    refine ⟨ρ, F, a, (aft.bind (R := RpAll X.K) h).imp fun d _ v F1 H1 _ _ q => ?_⟩
    obtain ⟨ds, F2, _, n, rv, q⟩ := q
    have q : aft (Rp X.K) X.K T W σ F2 H1 Q (if ds.length ≤ sizeLine then .ok (.lst ds) else .bad) := q
    split at q
    · rename_i hl
      exact ⟨by rw [rv.length]; exact hl, fun p hp => q _ _ _ (Nx.push n.z hp ntL) (rp_lst n.z hp rv)⟩
    · exact q.elim
theorem atI_get {K : PySem.W.Frag} {F : Hp} {xs : List V} {ds : List D} {i : Int} {d : D} (r : RpAll K F xs ds) (h : atI ds i = some d) : ∃ v, atI xs i = some v ∧ Rp K F v d := by
  unfold atI at h ⊢
  rw [r.length]
  cases e : ixN ds.length i with
  | none => rw [e] at h; cases h
  | some j =>
    rw [e] at h
    exact r.get h
theorem atI_int {ns : List Int} {i : Int} {z : D} (h : (atI ns i).map D.int = some z) : ∃ n, atI (ns.map V.int) i = some (.int n) ∧ z = .int n := by
  unfold atI at h ⊢
  rw [List.length_map]
  cases e : ixN ns.length i with
  | none => rw [e] at h; cases h
  | some j =>
    rw [e] at h
    have h : (ns[j]?).map D.int = some z := h
    show ∃ n, (ns.map V.int)[j]? = some (.int n) ∧ z = .int n
    rw [List.getElem?_map]
    cases q : ns[j]? with
    | none => rw [q] at h; cases h
    | some n =>
      rw [q] at h
      cases h
      exact ⟨n, rfl, rfl⟩
theorem x_ix : IxR X (rD2 X.K T ixD) := by
  intro value slice pins s σ H x y v u Q I rx ry h hs
  obtain ⟨F, d, e, z, hz, rd, re, hG, q⟩ := h
  cases rd with
  | tup h1 r1 =>
    cases re with
    | int i =>
      obtain ⟨w, hw, rw'⟩ := atI_get r1 hG
      exact ix_tup value slice pins s σ H _ _ v u Q I rx ry ⟨_, _, i, w, rfl, rfl, hz.sub.st h1, hw, done0 hz q rw'⟩ hs
    | _ => cases hG
  | lst h1 r1 =>
    cases re with
    | int i =>
      obtain ⟨w, hw, rw'⟩ := atI_get r1 hG
      exact ix_list value slice pins s σ H _ _ v u Q I rx ry ⟨_, _, i, w, rfl, rfl, SqL.of (hz.sub _ _ h1), hw, done0 hz q rw'⟩ hs
    | _ => cases hG
  | arr h1 =>
    cases re with
    | int i =>
      obtain ⟨n, hn, rfl⟩ := atI_int hG
      exact ix_list value slice pins s σ H _ _ v u Q I rx ry ⟨_, _, i, .int n, rfl, rfl, hz.sub.sl h1, hn, done0 hz q (.int n)⟩ hs
    | _ => cases hG
  | str x =>
    cases re with
    | int i =>
      have hG : (if x.length ≤ sizeLine then (atI x.cps.toList i).map fun c => D.str ⟨#[c]⟩ else none) = some z := hG
      split at hG
      · rename_i hl
        cases e : atI x.cps.toList i with
        | none => rw [e] at hG; cases hG
        | some c =>
          rw [e] at hG
          cases hG
          exact ix_str value slice pins s σ H _ _ v u Q I rx ry ⟨x, i, c, rfl, rfl, hl, e, done0 hz q (.str _)⟩ hs
      · cases hG
    | _ => cases hG
  | _ => cases hG
theorem e_ix {a b : Expr} {f g : Rho → Res D} {pos : Pos} (ha : DE X T W a f) (hb : DE X T W b g) (hs : PlainIx b := by exact fun _ _ => rfl) : DE X T W (.Subscript a b pos) (bop ixD f g) :=
  (pe_ix x_ix ha hb hs).to fun _ _ _ h => bin_to h
abbrev DO (X : Cx) (T : List (Addr × Str)) (W : WX) (e : Option Expr) (f : Rho → Res (Option Int)) : Prop := PO X e (tG (fun _ _ a b => a = b) X.K T W f)
theorem _root_.L2.PO.to {X : Cx} {e : Option Expr} {t u : TO} (h : PO X e t) (k : ∀ σ H Q, u σ H Q → t σ H Q) : PO X e u := ⟨fun pins s σ H Q I q => h.run pins s σ H Q I (k σ H Q q)⟩
theorem p_none : DO X T W none pno := po_none.to fun σ H Q ⟨ρ, F, a, h⟩ => h _ F H (Nx.refl a.z) rfl
theorem p_some {e : Expr} {f : Rho → Res D} (h : DE X T W e f) : DO X T W (some e) (psm f) :=
  (po_some h).to fun σ H Q ⟨ρ, F, a, h⟩ => by
    refine ⟨ρ, F, a, (aft.bind (R := Rp X.K) h).imp fun d _ v F1 H1 _ _ q => ?_⟩
    obtain ⟨b, F2, _, n, rv, q⟩ := q
    cases rv with
    | int i => exact ⟨i, rfl, q.ok (Nx.refl n.z) rfl⟩
    | _ => exact q.elim
theorem RpAll.cut {K : PySem.W.Frag} {F : Hp} {xs : List V} {ds : List D} (r : RpAll K F xs ds) (lo hi : Option Int) : RpAll K F (cutV xs lo hi) (cutD ds lo hi) := by
  unfold cutV cutD
  rw [r.length]
  exact (r.drop _).take _
theorem cut_whole {ds : List D} {lo hi : Option Int} (h : HT.sIx ds.length 0 lo = 0 ∧ HT.sIx ds.length ds.length hi = ds.length) : cutD ds lo hi = ds := by
  unfold cutD
  rw [h.1, h.2]
  simp
def rSlD (K : PySem.W.Frag) (T : List (Addr × Str)) : V → Option Int → Option Int → Hp → VK → Prop := fun x lo hi H Q =>
  ∃ F d z, Fz F H ∧ Rp K F x d ∧ slD d lo hi = some z ∧ ∀ v F' H', Nx T F H F' H' → Rp K F' v z → Q v H'
theorem x_sl : SlR X (rSlD X.K T) := by
  intro pins s σ H x v vl vu lo hi sl Q I rx hs pl pu h
  obtain ⟨F, d, z, hz, rd, hG, q⟩ := h
  cases rd with
  | tup h1 r1 =>
    cases hG
    refine sl_tupA pins s σ H _ v vl vu lo hi sl Q I rx hs pl pu ⟨_, _, rfl, hz.sub.st h1, fun hw => ?_, fun _ p hp => donep hz hp ntT q (rp_tup hz hp (r1.cut lo hi))⟩
    rw [r1.length] at hw
    rw [cut_whole hw] at q
    exact done0 hz q (.tup h1 r1)
  | lst h1 r1 =>
    cases hG
    exact sl_list pins s σ H _ v vl vu lo hi sl Q I rx hs pl pu ⟨_, _, rfl, SqL.of (hz.sub _ _ h1), fun p hp => donep hz hp ntL q (rp_lst hz hp (r1.cut lo hi))⟩
  | str x =>
    have hG : (if x.length ≤ sizeLine then some (D.str (cutS x lo hi)) else none) = some z := hG
    split at hG
    · rename_i hl
      cases hG
      exact sl_str pins s σ H _ v vl vu lo hi sl Q I rx hs pl pu ⟨x, rfl, hl, done0 hz q (.str _)⟩
    · cases hG
  | _ => cases hG
theorem e_sl {e : Expr} {lo hi : Option Expr} {f : Rho → Res D} {g h : Rho → Res (Option Int)} {p2 pos : Pos} (he : DE X T W e f) (hl : DO X T W lo g) (hh : DO X T W hi h) : DE X T W (.Subscript e (.Slice lo hi none p2) pos) (slc f g h) :=
  (pe_slice x_sl he hl hh).to fun σ H Q ⟨ρ, F, a, h⟩ => by
    refine ⟨ρ, F, a, (aft.bind (R := Rp X.K) h).imp fun d _ v F1 H1 _ _ q => ?_⟩
    obtain ⟨b, F2, _, n, rv, q⟩ := q
    refine ⟨ρ, F2, a.nx n, (aft.bind (R := fun _ a b => a = b) q).imp fun lo _ v' F3 H3 _ _ q => ?_⟩
    obtain ⟨lo', F4, _, n2, rl, q⟩ := q
    subst rl
    refine ⟨ρ, F4, a.nx (n.trans n2), (aft.bind (R := fun _ a b => a = b) q).imp fun hi _ v'' F5 H5 _ _ q => ?_⟩
    obtain ⟨hi', F6, _, n3, rh, q⟩ := q
    subst rh
    obtain ⟨z, hz, q⟩ := ofO_ok q
    exact ⟨F6, b, z, n3.z, rv.mono (n2.trans n3).f, hz, q⟩
end

/-! ### calls of built-ins -/
section
variable {X : Cx} {T : List (Addr × Str)} {W : WX}
theorem cal_to {K : PySem.W.Frag} {G : List D → Option D} {f : Rho → Res (List D)} {σ : L2.St} {H : Hp} {Q : VK} (h : tE K T W (cal G f) σ H Q) : tCB (rDn K T G) (tA K T W f) σ H Q := by
  obtain ⟨ρ, F, a, h⟩ := h
  refine ⟨ρ, F, a, (aft.bind (R := RpAll K) h).imp fun d _ v F1 H1 _ _ q => ?_⟩
  obtain ⟨b, F2, _, n, rv, q⟩ := q
  obtain ⟨z, hz, q⟩ := ofO_ok q
  exact ⟨F2, b, z, n.z, rv, hz, q⟩
theorem e_callB {id : String} {x : Str} {G : List D → Option D} {e : Expr} {es : List Expr} {p pos : Pos} {f : Rho → Res (List D)} (hc : CallR X (.builtin id) (rDn X.K T G)) (hg : Gl X x) (hm : X.mg x = none) (hv : bootBuiltins x = some (.builtin id)) (ha : DA X T W (e :: es) f)
    (hn : x ≠ "__name__" := by decide) (hdb : (x == ("__debug__" : Str)) = false := by decide) (hpl : starEach (e :: es) X.env = (false, eval e X.env) :: starEach es X.env := by rfl) (hpl2 : (backTo pos (starEach es X.env)).any (·.1) = false := by rfl) : DE X T W (.Call (.Name x p) (e :: es) [] pos) (cal G f) :=
  (pe_callB hc hg hm hv ha hn hdb hpl hpl2).to fun _ _ _ h => cal_to h
theorem e_callTy {T' : String} {x : Str} {G : List D → Option D} {e : Expr} {es : List Expr} {p pos : Pos} {f : Rho → Res (List D)} (hc : CallR X (.type T') (rDn X.K T G)) (hg : Gl X x) (hm : X.mg x = none) (hv : bootBuiltins x = some (.type T')) (ha : DA X T W (e :: es) f)
    (hn : x ≠ "__name__" := by decide) (hdb : (x == ("__debug__" : Str)) = false := by decide) (hpl : starEach (e :: es) X.env = (false, eval e X.env) :: starEach es X.env := by rfl) (hpl2 : (backTo pos (starEach es X.env)).any (·.1) = false := by rfl) : DE X T W (.Call (.Name x p) (e :: es) [] pos) (cal G f) :=
  (pe_callTy hc hg hm hv ha hn hdb hpl hpl2).to fun _ _ _ h => cal_to h
end
def lenD : List D → Option D
  | [.str x] => if x.length ≤ sizeLine then some (.int x.length) else none
  | [.tup xs] => some (.int xs.length)
  | [.lst xs] => some (.int xs.length)
  | [.arr ns] => some (.int ns.length)
  | _ => none
def absD : List D → Option D
  | [.int i] => some (.int (if i < 0 then -i else i))
  | _ => none
def maxD : List D → Option D
  | [.int i, .int j] => some (.int (if j > i then j else i))
  | _ => none
def minD : List D → Option D
  | [.int i, .int j] => some (.int (if j < i then j else i))
  | _ => none
def intD : List D → Option D
  | [.int i] => some (.int i)
  | [.bl k] => some (.int (if k then 1 else 0))
  | [.str x] => if x.length ≤ 640 then (PySem.intText? x).map .int else none
  | _ => none
def strD : List D → Option D
  | [.int i] => if i.natAbs.log2 < 1920 then some (.str (toString i)) else none
  | _ => none
def tupD : List D → Option D
  | [.lst xs] => some (.tup xs)
  | [.tup xs] => some (.tup xs)
  | _ => none
section
variable {X : Cx} {T : List (Addr × Str)} {W : WX}
theorem all1 {K : PySem.W.Frag} {F : Hp} {xs : List V} {d : D} (r : RpAll K F xs [d]) : ∃ v, xs = [v] ∧ Rp K F v d := by
  cases r with
  | cons h t => cases t; exact ⟨_, rfl, h⟩
theorem all2 {K : PySem.W.Frag} {F : Hp} {xs : List V} {d e : D} (r : RpAll K F xs [d, e]) : ∃ v w, xs = [v, w] ∧ Rp K F v d ∧ Rp K F w e := by
  cases r with
  | cons h t =>
    obtain ⟨w, rfl, h2⟩ := all1 t
    exact ⟨_, w, rfl, h, h2⟩
theorem c_len : CallR X (.builtin "len") (rDn X.K T lenD) := by
  intro pins s σ H xs us Q I r h
  obtain ⟨F, ds, z, hz, rs, hG, q⟩ := h
  unfold lenD at hG
  split at hG
  · rename_i x
    obtain ⟨v, rfl, rv⟩ := all1 rs
    cases rv
    split at hG
    · rename_i hl
      cases hG
      exact call_len_str pins s σ H _ us Q I r ⟨x, rfl, hl, done0 hz q (.int _)⟩
    · cases hG
  · obtain ⟨v, rfl, rv⟩ := all1 rs
    cases hG
    cases rv with
    | tup h1 r1 => exact call_len_seq pins s σ H _ us Q I r ⟨_, _, rfl, .inr (hz.sub.st h1), by rw [r1.length]; exact done0 hz q (.int _)⟩
  · obtain ⟨v, rfl, rv⟩ := all1 rs
    cases hG
    cases rv with
    | lst h1 r1 => exact call_len_seq pins s σ H _ us Q I r ⟨_, _, rfl, .inl (SqL.of (hz.sub _ _ h1)), by rw [r1.length]; exact done0 hz q (.int _)⟩
  · obtain ⟨v, rfl, rv⟩ := all1 rs
    cases hG
    cases rv with
    | arr h1 => exact call_len_seq pins s σ H _ us Q I r ⟨_, _, rfl, .inl (hz.sub.sl h1), by rw [List.length_map]; exact done0 hz q (.int _)⟩
  · cases hG
theorem c_abs : CallR X (.builtin "abs") (rDn X.K T absD) := by
  intro pins s σ H xs us Q I r h
  obtain ⟨F, ds, z, hz, rs, hG, q⟩ := h
  unfold absD at hG
  split at hG
  · obtain ⟨v, rfl, rv⟩ := all1 rs
    cases rv
    cases hG
    exact call_abs pins s σ H _ us Q I r ⟨_, rfl, done0 hz q (.int _)⟩
  · cases hG
theorem c_max (hc : X.calm = true) : CallR X (.builtin "max") (rDn X.K T maxD) := by
  intro pins s σ H xs us Q I r h
  obtain ⟨F, ds, z, hz, rs, hG, q⟩ := h
  unfold maxD at hG
  split at hG
  · obtain ⟨v, w, rfl, rv, rw'⟩ := all2 rs
    cases rv
    cases rw'
    cases hG
    exact call_max2 hc pins s σ H _ us Q I r ⟨_, _, rfl, done0 hz q (.int _)⟩
  · cases hG
theorem c_min (hc : X.calm = true) : CallR X (.builtin "min") (rDn X.K T minD) := by
  intro pins s σ H xs us Q I r h
  obtain ⟨F, ds, z, hz, rs, hG, q⟩ := h
  unfold minD at hG
  split at hG
  · obtain ⟨v, w, rfl, rv, rw'⟩ := all2 rs
    cases rv
    cases rw'
    cases hG
    exact call_min2 hc pins s σ H _ us Q I r ⟨_, _, rfl, done0 hz q (.int _)⟩
  · cases hG
theorem c_int : CallR X (.type "int") (rDn X.K T intD) := by
  intro pins s σ H xs us Q I r h
  obtain ⟨F, ds, z, hz, rs, hG, q⟩ := h
  unfold intD at hG
  split at hG
  · obtain ⟨v, rfl, rv⟩ := all1 rs
    cases rv
    cases hG
    exact call_int1 pins s σ H _ us Q I r (.inl ⟨_, rfl, done0 hz q (.int _)⟩)
  · obtain ⟨v, rfl, rv⟩ := all1 rs
    cases rv
    cases hG
    exact call_int1 pins s σ H _ us Q I r (.inr ⟨_, rfl, done0 hz q (.int _)⟩)
  · rename_i x
    obtain ⟨v, rfl, rv⟩ := all1 rs
    cases rv
    split at hG
    · rename_i hl
      cases e : PySem.intText? x with
      | none => rw [e] at hG; cases hG
      | some n =>
        rw [e] at hG
        cases hG
        exact call_int_str pins s σ H _ us Q I r ⟨x, n, rfl, e, hl, done0 hz q (.int _)⟩
    · cases hG
  · cases hG
theorem c_str : CallR X (.type "str") (rDn X.K T strD) := by
  intro pins s σ H xs us Q I r h
  obtain ⟨F, ds, z, hz, rs, hG, q⟩ := h
  unfold strD at hG
  split at hG
  · obtain ⟨v, rfl, rv⟩ := all1 rs
    cases rv
    split at hG
    · rename_i hl
      cases hG
      exact call_str_int pins s σ H _ us Q I r ⟨_, rfl, hl, done0 hz q (.str _)⟩
    · cases hG
  · cases hG
theorem c_tup : CallR X (.type "tuple") (rDn X.K T tupD) := by
  intro pins s σ H xs us Q I r h
  obtain ⟨F, ds, z, hz, rs, hG, q⟩ := h
  unfold tupD at hG
  split at hG
  · obtain ⟨v, rfl, rv⟩ := all1 rs
    cases hG
    cases rv with
    | lst h1 r1 => exact call_tuple_of pins s σ H _ us Q I r ⟨_, _, rfl, .inl ⟨SqL.of (hz.sub _ _ h1), fun p hp => donep hz hp ntT q (rp_tup hz hp r1)⟩⟩
  · obtain ⟨v, rfl, rv⟩ := all1 rs
    cases hG
    cases rv with
    | tup h1 r1 => exact call_tuple_of pins s σ H _ us Q I r ⟨_, _, rfl, .inr ⟨hz.sub.st h1, done0 hz q (.tup h1 r1)⟩⟩
  · cases hG
end
end DN
namespace DN
open PySem PySem.Spec PyProof.Rows L2
open LamX (Tabs ExtN)

/-! ### == and != of data -/
def flatD : D → Bool
  | .non => true
  | .bl _ => true
  | .int _ => true
  | .str _ => true
  | _ => false
mutual
def eqd : D → D → Bool
  | .non, .non => true
  | .bl a, .bl b => a == b
  | .bl a, .int j => (if a then 1 else 0) == j
  | .int i, .bl b => i == (if b then 1 else 0)
  | .int i, .int j => i == j
  | .str x, .str y => x == y
  | .lst xs, .lst ys => eqds xs ys
  | .tup xs, .tup ys => eqds xs ys
  | _, _ => false
def eqds : List D → List D → Bool
  | [], [] => true
  | x :: xs, y :: ys => eqd x y && eqds xs ys
  | _, _ => false
end
mutual
/-- plain data that is no deeper than n -/
def plain : Nat → D → Bool
  | _, .non => true
  | _, .bl _ => true
  | _, .int _ => true
  | _, .str x => PyData.strOk x
  | n + 1, .lst xs => plains n xs
  | n + 1, .tup xs => plains n xs
  | _, _ => false
def plains : Nat → List D → Bool
  | _, [] => true
  | n, x :: xs => plain n x && plains n xs
end
mutual
def pyO : D → PyData
  | .non => .none
  | .bl b => .bool b
  | .int i => .int i
  | .str x => .str x
  | .lst xs => .list (pyA xs)
  | .tup xs => .tuple (pyA xs)
  | _ => .none
def pyA : List D → List PyData
  | [] => []
  | x :: xs => pyO x :: pyA xs
end
mutual
theorem plain_py {K : PySem.W.Frag} {H : Hp} : ∀ (n : Nat) (d : D) (v : V), plain n d = true → Rp K H v d → Dp K H v (pyO d) ∧ (pyO d).canLay0 = true ∧ (pyO d).depth ≤ n
  | n, .non, _, _, .non => by
    unfold pyO
    exact ⟨.non, by simp [PyData.canLay0], by simp [PyData.depth]⟩
  | n, .bl b, _, _, .bl _ => by
    unfold pyO
    exact ⟨.bl b, by simp [PyData.canLay0], by simp [PyData.depth]⟩
  | n, .int b, _, _, .int _ => by
    unfold pyO
    exact ⟨.int b, by simp [PyData.canLay0], by simp [PyData.depth]⟩
  | n, .str b, _, h, .str _ => by
    unfold plain at h
    unfold pyO
    exact ⟨.str b, by simpa [PyData.canLay0] using h, by simp [PyData.depth]⟩
  | n + 1, .lst xs, _, h, .lst h1 r => by
    unfold plain at h
    obtain ⟨a, b, c⟩ := plains_py n xs _ h r
    unfold pyO
    exact ⟨.lst (SqL.of h1) a, by simpa [PyData.canLay0] using b, by simp only [PyData.depth]; omega⟩
  | n + 1, .tup xs, _, h, .tup h1 r => by
    unfold plain at h
    obtain ⟨a, b, c⟩ := plains_py n xs _ h r
    unfold pyO
    exact ⟨.tup h1 a, by simpa [PyData.canLay0] using b, by simp only [PyData.depth]; omega⟩
  | 0, .lst xs, _, h, _ => by simp [plain] at h
  | 0, .tup xs, _, h, _ => by simp [plain] at h
  | _, .fn _, _, h, _ => by simp [plain] at h
  | _, .ty _, _, h, _ => by simp [plain] at h
  | _, .dK _, _, h, _ => by simp [plain] at h
  | _, .dT _, _, h, _ => by simp [plain] at h
  | _, .arr _, _, h, _ => by simp [plain] at h
  | _, .pro _, _, h, _ => by simp [plain] at h
  | _, .dic _ _ _ _, _, h, _ => by simp [plain] at h
  | _, .adr _, _, h, _ => by simp [plain] at h
  | _, .ins _ _ _, _, h, _ => by simp [plain] at h
  | _, .tab _ _ _, _, h, _ => by simp [plain] at h
theorem plains_py {K : PySem.W.Frag} {H : Hp} : ∀ (n : Nat) (ds : List D) (vs : List V), plains n ds = true → RpAll K H vs ds → DpAll K H vs (pyA ds) ∧ PyData.canLayAll0 (pyA ds) = true ∧ PyData.depthAll (pyA ds) ≤ n
  | n, [], _, _, .nil => by
    unfold pyA
    exact ⟨.nil, by simp [PyData.canLayAll0], by simp [PyData.depthAll]⟩
  | n, d :: ds, _, h, .cons r t => by
    unfold plains at h
    rw [Bool.and_eq_true] at h
    obtain ⟨a, b, c⟩ := plain_py n d _ h.1 r
    obtain ⟨a2, b2, c2⟩ := plains_py n ds _ h.2 t
    unfold pyA
    exact ⟨.cons a a2, by simp [PyData.canLayAll0, b, b2], by simp only [PyData.depthAll]; omega⟩
end
mutual
theorem eqd_py : ∀ (n m : Nat) (d e : D), plain n d = true → plain m e = true → PyData.eqv (pyO d) (pyO e) = eqd d e
  | n, m, d, e, hd, he => by
    cases d <;> cases e <;> first
      | (simp only [pyO, PyData.eqv, eqd]; done)
      | (cases n <;> simp [plain] at hd; done)
      | (cases m <;> simp [plain] at he; done)
      | (cases n with
         | zero => simp [plain] at hd
         | succ n =>
           cases m with
           | zero => simp [plain] at he
           | succ m =>
             unfold plain at hd he
             simp only [pyO, PyData.eqv, eqd]
             exact eqds_py n m _ _ hd he)
theorem eqds_py : ∀ (n m : Nat) (d e : List D), plains n d = true → plains m e = true → PyData.eqvAll (pyA d) (pyA e) = eqds d e
  | n, m, [], [], _, _ => by simp [pyA, PyData.eqvAll, eqds]
  | n, m, [], _ :: _, _, _ => by simp [pyA, PyData.eqvAll, eqds]
  | n, m, _ :: _, [], _, _ => by simp [pyA, PyData.eqvAll, eqds]
  | n, m, x :: xs, y :: ys, hd, he => by
    unfold plains at hd he
    rw [Bool.and_eq_true] at hd he
    simp only [pyA, PyData.eqvAll, eqds]
    rw [eqd_py n m x y hd.1 he.1, eqds_py n m xs ys hd.2 he.2]
end
def eqOk (d e : D) : Bool := (flatD d && flatD e) || (plain 64 d && plain 64 e)
def eqD (d e : D) : Option D := if eqOk d e = true then some (.bl (eqd d e)) else none
def neD (d e : D) : Option D := if eqOk d e = true then some (.bl (!eqd d e)) else none
section
variable {X : Cx} {T : List (Addr × Str)} {W : WX}
/-- either two scalars that == tells apart, or plain data -/
theorem eq_cases {K : PySem.W.Frag} {F H : Hp} {x y : V} {d e : D} (hz : Fz F H) (rd : Rp K F x d) (re : Rp K F y e) (h : eqOk d e = true) :
    (scal x y = true ∧ decide (x = y) = eqd d e) ∨ (∃ a b, Dp K H x a ∧ Dp K H y b ∧ SeqAt.shaped a = true ∧ SeqAt.shaped b = true ∧ PyData.eqv a b = eqd d e) := by
  have deep : plain 64 d = true → plain 64 e = true → ∃ a b, Dp K H x a ∧ Dp K H y b ∧ SeqAt.shaped a = true ∧ SeqAt.shaped b = true ∧ PyData.eqv a b = eqd d e := fun hd he => by
    obtain ⟨a1, a2, a3⟩ := plain_py 64 d x hd (rd.mono hz.sub)
    obtain ⟨b1, b2, b3⟩ := plain_py 64 e y he (re.mono hz.sub)
    refine ⟨_, _, a1, b1, ?_, ?_, eqd_py 64 64 d e hd he⟩
    · unfold SeqAt.shaped
      rw [a2, decide_eq_true a3] <;> rfl
    · unfold SeqAt.shaped
      rw [b2, decide_eq_true b3] <;> rfl
  unfold eqOk at h
  rw [Bool.or_eq_true, Bool.and_eq_true, Bool.and_eq_true] at h
  rcases h with ⟨h1, h2⟩ | ⟨h1, h2⟩
  · cases rd <;> cases re <;> first
      | (cases h1; done)
      | (cases h2; done)
      | (refine .inr (deep ?_ ?_) <;> simp [plain] <;> done)
      | (refine .inl ⟨rfl, ?_⟩; simp only [eqd]; first | exact dec_str | (simp; done))
  · exact .inr (deep h1 h2)
theorem o_eq (hu : X.A.units + 64 < cLine) : OpR X (compareOp .Eq) (rD2 X.K T eqD) := by
  intro pins s σ H x y v u Q I rx ry h
  obtain ⟨F, d, e, z, hz, rd, re, hG, q⟩ := h
  unfold eqD at hG
  split at hG
  · rename_i hk
    cases hG
    rcases eq_cases hz rd re hk with ⟨h1, h2⟩ | ⟨a, b, h1, h2, h3, h4, h5⟩
    · exact op_eq pins s σ H x y v u Q I rx ry ⟨h1, by rw [h2]; exact done0 hz q (.bl _)⟩
    · exact op_eqD hu pins s σ H x y v u Q I rx ry ⟨a, b, h1, h2, h3, h4, by rw [h5]; exact done0 hz q (.bl _)⟩
  · cases hG
theorem o_ne (hu : X.A.units + 64 < cLine) : OpR X (compareOp .NotEq) (rD2 X.K T neD) := by
  intro pins s σ H x y v u Q I rx ry h
  obtain ⟨F, d, e, z, hz, rd, re, hG, q⟩ := h
  unfold neD at hG
  split at hG
  · rename_i hk
    cases hG
    rcases eq_cases hz rd re hk with ⟨h1, h2⟩ | ⟨a, b, h1, h2, h3, h4, h5⟩
    · exact op_ne pins s σ H x y v u Q I rx ry ⟨h1, by rw [h2]; exact done0 hz q (.bl _)⟩
    · exact op_neD hu pins s σ H x y v u Q I rx ry ⟨a, b, h1, h2, h3, h4, by rw [h5]; exact done0 hz q (.bl _)⟩
  · cases hG
end

/-! ### in, not in -/
section
variable {X : Cx} {T : List (Addr × Str)} {W : WX}
end
end DN
namespace DN
open PySem PySem.Spec PyProof.Rows L2
open LamX (Tabs ExtN)

/-! ### statements -/
inductive SR where
  | nx (ρ : Rho) | rt (d : D) | bk (ρ : Rho) | ct (ρ : Rho) | ex (n : Str) (ρ : Rho) | bad
def bindS {α : Type} (r : Res α) (ρ : Rho) (k : α → SR) : SR := match r with
  | .ok a => k a
  | .ex n => .ex n ρ
  | .bad => .bad
/-- the frame's own objects are new since the entry -/
def Ow (H0 : Hp) (σ : L2.St) (ρ : Rho) : Prop := ∀ (i : Nat) (d : D) (p : Addr), ρ[i]? = some (En.o d) → σ[i]? = some (some (V.ref p)) → ∀ o, H0 p = some o → ∃ ps, o = .tbl ps
structure Sg (K : PySem.W.Frag) (T : List (Addr × Str)) (F0 H0 F H : Hp) (σ : L2.St) (ρ : Rho) : Prop where
  at_ : At K T F H σ ρ
  nx : Nx T F0 H0 F H
  ow : Ow H0 σ ρ
def aftS (K : PySem.W.Frag) (T : List (Addr × Str)) (W : WX) (F0 H0 F : Hp) (Z : Ends) : SR → Prop
  | .nx ρ => ∀ σ F' H', Sg K T F0 H0 F' H' σ ρ → Sub F F' → Z.nx σ H'
  | .bk ρ => ∀ σ F' H', Sg K T F0 H0 F' H' σ ρ → Sub F F' → Z.bk σ H'
  | .ct ρ => ∀ σ F' H', Sg K T F0 H0 F' H' σ ρ → Sub F F' → Z.ct σ H'
  | .rt d => ∀ v F' H', Nx T F0 H0 F' H' → Rp K F' v d → Z.rt v H'
  | .ex n ρ => ∀ σ F' H', Sg K T F0 H0 F' H' σ ρ → Sub F F' → W (.ref (He.ga K n)) none σ H'
  | .bad => False
def tS (K : PySem.W.Frag) (T : List (Addr × Str)) (W : WX) (F0 H0 : Hp) (s : Rho → SR) : TS := fun Z σ H => ∃ ρ F, Sg K T F0 H0 F H σ ρ ∧ aftS K T W F0 H0 F Z (s ρ)
abbrev DS (X : Cx) (T : List (Addr × Str)) (W : WX) (F0 H0 : Hp) (st : Stmt) (s : Rho → SR) : Prop := PS X st (tS X.K T W F0 H0 s)
abbrev DSs (X : Cx) (T : List (Addr × Str)) (W : WX) (F0 H0 : Hp) (st : List Stmt) (s : Rho → SR) : Prop := PSs X st (tS X.K T W F0 H0 s)
section
variable {K : PySem.W.Frag} {T : List (Addr × Str)} {W : WX} {F0 H0 F H F1 H1 : Hp} {σ : L2.St} {ρ : Rho} {Z : Ends}
theorem Sg.step (g : Sg K T F0 H0 F H σ ρ) (n : Nx T F H F1 H1) : Sg K T F0 H0 F1 H1 σ ρ := ⟨g.at_.nx n, g.nx.trans n, g.ow⟩
theorem aftS.mono {r : SR} (e : Sub F F1) (h : aftS K T W F0 H0 F Z r) : aftS K T W F0 H0 F1 Z r := by
  cases r with
  | nx ρ => exact fun σ F' H' g s => h σ F' H' g (e.trans s)
  | bk ρ => exact fun σ F' H' g s => h σ F' H' g (e.trans s)
  | ct ρ => exact fun σ F' H' g s => h σ F' H' g (e.trans s)
  | ex n ρ => exact fun σ F' H' g s => h σ F' H' g (e.trans s)
  | rt d => exact h
  | bad => exact h
theorem aftS.bind {α β : Type} {R : Hp → α → β → Prop} {r : Res β} {k : β → SR} (g : Sg K T F0 H0 F H σ ρ) (h : aftS K T W F0 H0 F Z (bindS r ρ k)) :
    aft R K T W σ F H (fun a H1 => ∃ b F1, r = .ok b ∧ Nx T F H F1 H1 ∧ Sg K T F0 H0 F1 H1 σ ρ ∧ R F1 a b ∧ aftS K T W F0 H0 F1 Z (k b)) r := by
  cases r with
  | ok b => exact fun a F2 H2 n ra => ⟨b, F2, rfl, n, g.step n, ra, aftS.mono n.f h⟩
  | ex m => exact fun F' H' n => h σ F' H' (g.step n) n.f
  | bad => exact h
theorem Ow.set {i : Nat} {v : V} {d : D} (o : Ow H0 σ ρ) : Ow H0 (σ.set i (some v)) (ρ.set i (.z d)) := fun j e p h1 h2 => by
  rw [List.getElem?_set] at h1 h2
  by_cases hij : i = j
  · rw [if_pos hij] at h1
    split at h1 <;> cases h1
  · rw [if_neg hij] at h1 h2
    exact o j e p h1 h2
end
def sskip : Rho → SR := fun ρ => .nx ρ
def sseq (s t : Rho → SR) : Rho → SR := fun ρ => match s ρ with
  | .nx ρ' => t ρ'
  | r => r
def sret (f : Rho → Res D) : Rho → SR := fun ρ => bindS (f ρ) ρ .rt
def sif (c : Rho → Res Bool) (s t : Rho → SR) : Rho → SR := fun ρ => bindS (c ρ) ρ fun b => if b = true then s ρ else t ρ
/-- targets -/
abbrev Tg := Rho → D → Option Rho
abbrev Tgs := Rho → List D → Option Rho
def gn (i : Nat) : Tg := fun ρ d => some (ρ.set i (.z d))
def gsn : Tgs := fun ρ ds => match ds with
  | [] => some ρ
  | _ => none
def gsc (g : Tg) (h : Tgs) : Tgs := fun ρ ds => match ds with
  | d :: r => (g ρ d).bind fun ρ' => h ρ' r
  | [] => none
def gt (n : Nat) (h : Tgs) : Tg := fun ρ d => match d with
  | .tup ds => if ds.length = n then h ρ ds else none
  | .lst ds => if ds.length = n then h ρ ds else none
  | _ => none
def sasg (f : Rho → Res D) (g : Tg) : Rho → SR := fun ρ => bindS (f ρ) ρ fun d => match g ρ d with
  | some ρ' => .nx ρ'
  | none => .bad
def tGd (K : PySem.W.Frag) (T : List (Addr × Str)) (g : Tg) : TG := fun v σ H Q => ∃ ρ F d ρ', At K T F H σ ρ ∧ Rp K F v d ∧ g ρ d = some ρ' ∧ ∀ σ', At K T F H σ' ρ' → (∀ H0, Ow H0 σ ρ → Ow H0 σ' ρ') → Q σ' H
def tGs (K : PySem.W.Frag) (T : List (Addr × Str)) (g : Tgs) : TGs := fun vs σ H Q => ∃ ρ F ds ρ', At K T F H σ ρ ∧ RpAll K F vs ds ∧ g ρ ds = some ρ' ∧ ∀ σ', At K T F H σ' ρ' → (∀ H0, Ow H0 σ ρ → Ow H0 σ' ρ') → Q σ' H
theorem _root_.L2.PG.to {X : Cx} {e : Expr} {t u : TG} (h : PG X e t) (k : ∀ v σ H Q, u v σ H Q → t v σ H Q) : PG X e u := ⟨fun pins s σ H v w Q I r q => h.run pins s σ H v w Q I r (k v σ H Q q)⟩
theorem _root_.L2.PG.or {X : Cx} {e : Expr} {t u : TG} (h : PG X e t) (h2 : PG X e u) : PG X e (fun v σ H Q => t v σ H Q ∨ u v σ H Q) := ⟨fun pins s σ H v w Q I r q => q.elim (h.run pins s σ H v w Q I r) (h2.run pins s σ H v w Q I r)⟩
theorem _root_.L2.PGs.to {X : Cx} {es : List Expr} {t u : TGs} (h : PGs X es t) (k : ∀ v σ H Q, u v σ H Q → t v σ H Q) : PGs X es u := ⟨fun pins s σ H v w Q I r q => h.run pins s σ H v w Q I r (k v σ H Q q)⟩
section
variable {X : Cx} {T : List (Addr × Str)} {W : WX} {F0 H0 : Hp}
abbrev DG (X : Cx) (T : List (Addr × Str)) (e : Expr) (g : Tg) : Prop := PG X e (tGd X.K T g)
abbrev DGs (X : Cx) (T : List (Addr × Str)) (es : List Expr) (g : Tgs) : Prop := PGs X es (tGs X.K T g)
theorem g_name {i : Nat} {e : Expr} (h : PG X e (gName i)) : DG X T e (gn i) := h.to fun v σ H Q ⟨ρ, F, d, ρ', a, r, hg, q⟩ => by
  cases hg
  exact q _ ⟨a.z, a.t, a.r.set r⟩ fun H0 o => o.set
theorem gs_nil : DGs X T [] gsn := pgs_nil.to fun v σ H Q ⟨ρ, F, d, ρ', a, r, hg, q⟩ => by
  cases d with
  | nil =>
    cases r
    cases hg
    exact ⟨rfl, q σ a fun _ o => o⟩
  | cons _ _ => cases hg
theorem gs_cons {e : Expr} {es : List Expr} {g : Tg} {h : Tgs} (h1 : DG X T e g) (h2 : DGs X T es h) (hs : (assignEach (e :: es) X.env).map (·.2) = assign e X.env :: (assignEach es X.env).map (·.2) := by rfl) : DGs X T (e :: es) (gsc g h) :=
  (pgs_cons h1 h2 hs).to fun v σ H Q ⟨ρ, F, d, ρ', a, r, hg, q⟩ => by
    cases d with
    | nil => cases hg
    | cons d ds =>
      cases r with
      | cons r1 r2 =>
        have hg : (g ρ d).bind (fun ρ' => h ρ' ds) = some ρ' := hg
        cases e1 : g ρ d with
        | none => rw [e1] at hg; cases hg
        | some ρ1 =>
          rw [e1] at hg
          have hg : h ρ1 ds = some ρ' := hg
          refine ⟨_, _, rfl, ρ, F, d, ρ1, a, r1, e1, fun σ1 a1 o1 => ?_⟩
          exact ⟨ρ1, F, ds, ρ', a1, r2, hg, fun σ2 a2 o2 => q σ2 a2 fun H0 o => o2 H0 (o1 H0 o)⟩
theorem g_tup {es : List Expr} {k : Nat} {pos : Pos} {h : Tgs} {n : Nat} (hc : X.calm = true) (h1 : DGs X T es h) (hn : (assignEach es X.env).length = n := by rfl) (hst : (assignEach es X.env).findIdx? (·.1) = none := by rfl) : DG X T (.Tuple es k pos) (gt n h) :=
  (PG.or (pg_tup hc h1 hn hst) (pg_unl hc h1 hn hst)).to fun v σ H Q ⟨ρ, F, d, ρ', a, r, hg, q⟩ => by
    cases r with
    | @tup ad xs ds h1 r1 =>
      have hg : (if ds.length = n then h ρ ds else none) = some ρ' := hg
      split at hg
      · rename_i hl
        exact .inl ⟨ad, xs, rfl, a.z.sub.st h1, by rw [r1.length]; exact hl, ρ, F, ds, ρ', a, r1, hg, q⟩
      · cases hg
    | @lst ad xs ds h1 r1 =>
      have hg : (if ds.length = n then h ρ ds else none) = some ρ' := hg
      split at hg
      · rename_i hl
        exact .inr ⟨ad, xs, rfl, SqL.of (a.z.sub _ _ h1), by rw [r1.length]; exact hl, ρ, F, ds, ρ', a, r1, hg, q⟩
      · cases hg
    | _ => cases hg
theorem s_nil : DSs X T W F0 H0 [] sskip := pss_nil.to fun Z σ H ⟨ρ, F, g, h⟩ => h σ F H g (Sub.refl F)
theorem s_one {st : Stmt} {s : Rho → SR} (h : DS X T W F0 H0 st s) : DSs X T W F0 H0 [st] s := pss_one h
theorem s_cons {st : Stmt} {rest : List Stmt} {s t : Rho → SR} (h : DS X T W F0 H0 st s) (h2 : DSs X T W F0 H0 rest t) : DSs X T W F0 H0 (st :: rest) (sseq s t) :=
  (pss_cons h h2).to fun Z σ H ⟨ρ, F, g, h⟩ => by
    refine ⟨ρ, F, g, ?_⟩
    unfold sseq at h
    cases e : s ρ with
    | nx ρ' =>
      rw [e] at h
      exact fun σ' F' H' g' sb => ⟨ρ', F', g', aftS.mono sb h⟩
    | bk ρ' => rw [e] at h; exact h
    | ct ρ' => rw [e] at h; exact h
    | rt d => rw [e] at h; exact h
    | ex n ρ' => rw [e] at h; exact h
    | bad => rw [e] at h; exact h
theorem s_ret {e : Expr} {pos : Pos} {f : Rho → Res D} (h : DE X T W e f) : DS X T W F0 H0 (.Return (some e) pos) (sret f) :=
  (ps_ret h).to fun Z σ H ⟨ρ, F, g, h⟩ => by
    refine ⟨ρ, F, g.at_, (aftS.bind (R := Rp X.K) g h).imp fun d _ v F1 H1 _ _ q => ?_⟩
    obtain ⟨b, F2, _, n, g2, rv, q⟩ := q
    exact q v F2 H1 g2.nx rv
theorem s_if {c : Expr} {a b : List Stmt} {pos : Pos} {f : Rho → Res Bool} {s t : Rho → SR} (hc : DQ X T W c f) (ha : DSs X T W F0 H0 a s) (hb : DSs X T W F0 H0 b t) : DS X T W F0 H0 (.If c a b pos) (sif f s t) :=
  (ps_if hc ha hb).to fun Z σ H ⟨ρ, F, g, h⟩ => by
    refine ⟨ρ, F, g.at_, (aftS.bind (R := RBool) g h).imp fun d _ v F1 H1 _ _ q => ?_⟩
    obtain ⟨b, F2, _, n, g2, rv, q⟩ := q
    obtain rfl : v = b := rv
    cases v with
    | true => exact ⟨ρ, F2, g2, q⟩
    | false => exact ⟨ρ, F2, g2, q⟩
theorem sasg_to {f : Rho → Res D} {g : Tg} {K : PySem.W.Frag} {Z : Ends} {σ : L2.St} {H : Hp} (h : tS K T W F0 H0 (sasg f g) Z σ H) : tAsg (tE K T W f) (tGd K T g) Z σ H := by
  obtain ⟨ρ, F, gg, h⟩ := h
  refine ⟨ρ, F, gg.at_, (aftS.bind (R := Rp K) gg h).imp fun d _ v F1 H1 _ _ q => ?_⟩
  obtain ⟨b, F2, _, n, g2, rv, q⟩ := q
  cases e : g ρ b with
  | none => rw [e] at q; exact q.elim
  | some ρ' =>
    rw [e] at q
    exact ⟨ρ, F2, b, ρ', g2.at_, rv, e, fun σ' a' o' => q σ' F2 H1 ⟨a', g2.nx, o' H0 g2.ow⟩ (Sub.refl F2)⟩
theorem s_asg {tg e : Expr} {pos : Pos} {f : Rho → Res D} {g : Tg} (he : DE X T W e f) (hg : DG X T tg g) (hs : swapsWithSole [tg] e pos.line X.env = pure false := by rfl) (hw : swappedStores [tg] e X.env = pure none := by rfl)
    (h1 : (assignEach [tg] X.env).map (·.2) = [assign tg X.env] := by rfl) : DS X T W F0 H0 (.Assign [tg] e pos) (sasg f g) :=
  (ps_asg he hg hs hw h1).to fun Z σ H h => sasg_to h
end

/-! ### while -/
def whileD (c : Rho → Res Bool) (s : Rho → SR) : Nat → Rho → SR
  | 0, _ => .bad
  | n + 1, ρ => bindS (c ρ) ρ fun b => if b = true then (match s ρ with
    | .nx ρ' => whileD c s n ρ'
    | .ct ρ' => whileD c s n ρ'
    | .bk ρ' => .nx ρ'
    | r => r) else .nx ρ
section
variable {X : Cx} {T : List (Addr × Str)} {W : WX} {F0 H0 : Hp}
theorem s_while {c : Expr} {body : List Stmt} {pos : Pos} {f : Rho → Res Bool} {s : Rho → SR} (N : Nat) (hp : PassesOwn (model X.prog X.w) X.A X.env X.xe) (hc : DQ X T W c f) (hb : DSs X T W F0 H0 body s) : DS X T W F0 H0 (.While c body [] pos) (whileD f s N) :=
  (ps_while hp hc hb).to fun Z σ H ⟨ρ, F, g, h⟩ => by
    refine ⟨fun m σ H => ∃ ρ F', Sg X.K T F0 H0 F' H σ ρ ∧ aftS X.K T W F0 H0 F' Z (whileD f s m ρ), ⟨N, ρ, F, g, h⟩, ?_⟩
    rintro m σ H ⟨ρ, F1, g, h⟩
    cases m with
    | zero => exact h.elim
    | succ m =>
      refine ⟨ρ, F1, g.at_, (aftS.bind (R := RBool) g h).imp fun d _ v F2 H2 _ _ q => ?_⟩
      obtain ⟨b, F3, _, n, g2, rv, q⟩ := q
      obtain rfl : v = b := rv
      cases v with
      | false => exact q σ F3 H2 g2 (Sub.refl F3)
      | true =>
        refine ⟨fun σ' H' => ∃ ρ' F', Sg X.K T F0 H0 F' H' σ' ρ' ∧ aftS X.K T W F0 H0 F' Z (whileD f s m ρ'), fun σ' H' w => ⟨m, Nat.lt_succ_self m, w⟩, ρ, F3, g2, ?_⟩
        have q : aftS X.K T W F0 H0 F3 Z (match s ρ with
          | .nx ρ' => whileD f s m ρ'
          | .ct ρ' => whileD f s m ρ'
          | .bk ρ' => .nx ρ'
          | r => r) := q
        cases e : s ρ with
        | nx ρ' => rw [e] at q; exact fun σ' F' H' g' sb => ⟨ρ', F', g', aftS.mono sb q⟩
        | ct ρ' => rw [e] at q; exact fun σ' F' H' g' sb => ⟨ρ', F', g', aftS.mono sb q⟩
        | bk ρ' => rw [e] at q; exact q
        | rt d => rw [e] at q; exact q
        | ex n ρ' => rw [e] at q; exact q
        | bad => rw [e] at q; exact q
end

/-! ### what is walked -/
/-- the walk J gives ds, while F is frozen -/
def Walks (K : PySem.W.Frag) (T : List (Addr × Str)) (F : Hp) (J : It) (ds : List D) : Prop :=
  ∀ (i : Nat) (F' H : Hp), Sub F F' → Fz F' H → (∀ d, ds[i]? = some d → J.go i H ∧ ∀ x H', J.yld i H x H' → ∃ F2, Nx T F' H F2 H' ∧ Rp K F2 x d) ∧ (ds.length ≤ i → J.stop i H)
def tI (K : PySem.W.Frag) (T : List (Addr × Str)) (W : WX) (f : Rho → Res (List D)) : TI := tG (fun K F J ds => Walks K T F J ds) K T W f
abbrev DI (X : Cx) (T : List (Addr × Str)) (W : WX) (tg iter : Expr) (f : Rho → Res (List D)) : Prop := PI X tg iter (tI X.K T W f)
theorem _root_.L2.PI.to {X : Cx} {tg e : Expr} {t u : TI} (h : PI X tg e t) (k : ∀ σ H R, u σ H R → t σ H R) : PI X tg e u := ⟨fun pins s σ H R I q => h.run pins s σ H R I (k σ H R q)⟩
theorem _root_.L2.PI.or {X : Cx} {tg e : Expr} {t u : TI} (h : PI X tg e t) (h2 : PI X tg e u) : PI X tg e (fun σ H R => t σ H R ∨ u σ H R) := ⟨fun pins s σ H R I q => q.elim (h.run pins s σ H R I) (h2.run pins s σ H R I)⟩
def loopD (g : Tg) (s : Rho → SR) : List D → Rho → SR
  | [], ρ => .nx ρ
  | d :: ds, ρ => match g ρ d with
    | none => .bad
    | some ρ1 => match s ρ1 with
      | .nx ρ' => loopD g s ds ρ'
      | .ct ρ' => loopD g s ds ρ'
      | .bk ρ' => .nx ρ'
      | r => r
def sfor (f : Rho → Res (List D)) (g : Tg) (s : Rho → SR) : Rho → SR := fun ρ => bindS (f ρ) ρ fun ds => loopD g s ds ρ
section
variable {X : Cx} {T : List (Addr × Str)} {W : WX} {F0 H0 : Hp}
theorem s_for {tg iter : Expr} {body : List Stmt} {pos : Pos} {f : Rho → Res (List D)} {g : Tg} {s : Rho → SR} (hp : PassesOwn (model X.prog X.w) X.A X.env X.xe) (hc : X.calm = true) (hi : DI X T W tg iter f) (hg : DG X T tg g) (hb : DSs X T W F0 H0 body s)
    (hs : ∀ x, foldedSetIterable iter X.env x = pure x := by intro _; rfl) : DS X T W F0 H0 (.For tg iter body [] pos) (sfor f g s) :=
  (ps_for hp hc hi hg hb hs).to fun Z σ H ⟨ρ, F, gg, h⟩ => by
    refine ⟨ρ, F, gg.at_, (aftS.bind (R := fun F J ds => Walks X.K T F J ds) gg h).imp fun d _ J F1 H1 _ _ q => ?_⟩
    obtain ⟨ds, F2, _, n, g2, wk, q⟩ := q
    refine ⟨fun i m σ H => m = ds.length - i ∧ i ≤ ds.length ∧ ∃ ρ F', Sg X.K T F0 H0 F' H σ ρ ∧ Sub F2 F' ∧ aftS X.K T W F0 H0 F' Z (loopD g s (ds.drop i) ρ), ⟨ds.length, by omega, by omega, ρ, F2, g2, Sub.refl F2, q⟩, ?_⟩
    rintro i m σ H ⟨rfl, hi, ρ, F3, g3, sb, q⟩
    obtain ⟨wg, ws⟩ := wk i F3 H sb g3.at_.z
    by_cases hlt : i < ds.length
    · have e : ds[i]? = some ds[i] := List.getElem?_eq_getElem hlt
      obtain ⟨go, yl⟩ := wg _ e
      refine .inr ⟨go, fun σ' H' => ∃ ρ' F', Sg X.K T F0 H0 F' H' σ' ρ' ∧ Sub F2 F' ∧ aftS X.K T W F0 H0 F' Z (loopD g s (ds.drop (i + 1)) ρ'), fun σ' H' w => ⟨ds.length - (i + 1), by omega, rfl, by omega, w⟩, fun x H' y => ?_⟩
      obtain ⟨F4, n4, rx⟩ := yl x H' y
      rw [List.drop_eq_getElem_cons hlt] at q
      have g4 := g3.step n4
      have q : aftS X.K T W F0 H0 F3 Z (match g ρ ds[i] with
        | none => .bad
        | some ρ1 => match s ρ1 with
          | .nx ρ' => loopD g s (ds.drop (i + 1)) ρ'
          | .ct ρ' => loopD g s (ds.drop (i + 1)) ρ'
          | .bk ρ' => .nx ρ'
          | r => r) := q
      cases eg : g ρ ds[i] with
      | none => rw [eg] at q; exact q.elim
      | some ρ1 =>
        rw [eg] at q
        have q : aftS X.K T W F0 H0 F3 Z (match s ρ1 with
          | .nx ρ' => loopD g s (ds.drop (i + 1)) ρ'
          | .ct ρ' => loopD g s (ds.drop (i + 1)) ρ'
          | .bk ρ' => .nx ρ'
          | r => r) := q
        refine ⟨ρ, F4, ds[i], ρ1, g4.at_, rx, eg, fun σ1 a1 o1 => ⟨ρ1, F4, ⟨a1, g4.nx, o1 H0 g4.ow⟩, ?_⟩⟩
        cases e2 : s ρ1 with
        | nx ρ' => rw [e2] at q; exact fun σ' F' H' g' sb' => ⟨ρ', F', g', (sb.trans n4.f).trans sb', aftS.mono (n4.f.trans sb') q⟩
        | ct ρ' => rw [e2] at q; exact fun σ' F' H' g' sb' => ⟨ρ', F', g', (sb.trans n4.f).trans sb', aftS.mono (n4.f.trans sb') q⟩
        | bk ρ' => rw [e2] at q; exact fun σ' F' H' g' sb' => q σ' F' H' g' (n4.f.trans sb')
        | rt d => rw [e2] at q; exact q
        | ex n ρ' => rw [e2] at q; exact fun σ' F' H' g' sb' => q σ' F' H' g' (n4.f.trans sb')
        | bad => rw [e2] at q; exact q
    · have e : i = ds.length := by omega
      subst e
      refine .inl ⟨ws (Nat.le_refl _), ?_⟩
      rw [List.drop_length] at q
      exact q σ F3 H g3 (Sub.refl F3)

/-! the walks -/
def itemsD : D → Res (List D)
  | .tup xs => .ok xs
  | .lst xs => .ok xs
  | .arr ns => .ok (ns.map .int)
  | .str x => .ok (x.cps.toList.map fun c => .str ⟨#[c]⟩)
  | _ => .bad
def its (f : Rho → Res D) : Rho → Res (List D) := fun ρ => (f ρ).bind itemsD
theorem walks_list {K : PySem.W.Frag} {F : Hp} {a : Addr} {xs : List V} {ds : List D} (h : SqL K F a xs) (r : RpAll K F xs ds) : Walks K T F (Itl K a) ds := fun i F' H sb z => by
  have hl : SqL K H a xs := (sb.trans z.sub).sl h
  refine ⟨fun d hd => ?_, fun hle => ⟨xs, hl, by rw [r.length]; exact hle⟩⟩
  obtain ⟨v, hv, rv⟩ := r.get hd
  refine ⟨⟨xs, v, hl, hv⟩, fun x H' y => ?_⟩
  obtain ⟨rfl, y⟩ := y
  have e := y xs hl
  rw [hv] at e
  cases e
  exact ⟨F', Nx.refl z, rv.mono sb⟩
theorem walks_tup {K : PySem.W.Frag} {F : Hp} {a : Addr} {xs : List V} {ds : List D} (h : SqT K F a xs) (r : RpAll K F xs ds) : Walks K T F (Itt K a) ds := fun i F' H sb z => by
  have hl : SqT K H a xs := (sb.trans z.sub).st h
  refine ⟨fun d hd => ?_, fun hle => ⟨xs, hl, by rw [r.length]; exact hle⟩⟩
  obtain ⟨v, hv, rv⟩ := r.get hd
  refine ⟨⟨xs, v, hl, hv⟩, fun x H' y => ?_⟩
  obtain ⟨rfl, y⟩ := y
  have e := y xs hl
  rw [hv] at e
  cases e
  exact ⟨F', Nx.refl z, rv.mono sb⟩
end
end DN
namespace DN
open PySem PySem.Spec PyProof.Rows L2
open LamX (Tabs ExtN)

/-! ### the walks of for and of comprehensions -/
section
variable {X : Cx} {T : List (Addr × Str)} {W : WX} {F0 H0 : Hp}
theorem walks_str {K : PySem.W.Frag} {F : Hp} {x : Str} : Walks K T F (Its x) (x.cps.toList.map fun c => D.str ⟨#[c]⟩) := fun i F' H sb z => by
  refine ⟨fun d hd => ?_, fun hle => ?_⟩
  · rw [List.getElem?_map] at hd
    cases e : x.cps.toList[i]? with
    | none => rw [e] at hd; cases hd
    | some c =>
      rw [e] at hd
      cases hd
      have hi : i < x.cps.size := by
        have := (List.getElem?_eq_some_iff.mp e).1
        simpa using this
      refine ⟨hi, fun v H' y => ?_⟩
      obtain ⟨rfl, c', hc', rfl⟩ := y
      have e2 : x.cps[i]? = some c := by simpa using e
      rw [e2] at hc'
      cases hc'
      exact ⟨F', Nx.refl z, .str _⟩
  · show x.cps.size ≤ i
    simpa using hle
theorem i_any {tg l : Expr} {f : Rho → Res D} (h : DE X T W l f) : DI X T W tg l (its f) :=
  ((pi_list h).or ((pi_tup h).or (pi_str h))).to fun σ H R ⟨ρ, F, a, h⟩ => by
    have h : aft (fun F J ds => Walks X.K T F J ds) X.K T W σ F H R ((f ρ).bind itemsD) := h
    cases e : f ρ with
    | bad => rw [e] at h; exact h.elim
    | ex n =>
      rw [e] at h
      exact .inl ⟨ρ, F, a, by rw [e]; exact h⟩
    | ok d =>
      rw [e] at h
      have h : aft (fun F J ds => Walks X.K T F J ds) X.K T W σ F H R (itemsD d) := h
      cases d with
      | lst ds =>
        refine .inl ⟨ρ, F, a, ?_⟩
        rw [e]
        intro v F' H' n r
        cases r with
        | lst h1 r1 => exact ⟨_, rfl, ⟨_, SqL.of (n.z.sub _ _ h1)⟩, h _ F' H' n (walks_list (SqL.of h1) r1)⟩
      | arr ns =>
        refine .inl ⟨ρ, F, a, ?_⟩
        rw [e]
        intro v F' H' n r
        cases r with
        | arr h1 => exact ⟨_, rfl, ⟨_, n.z.sub.sl h1⟩, h _ F' H' n (walks_list h1 (RpAll.ints ns))⟩
      | tup ds =>
        refine .inr (.inl ⟨ρ, F, a, ?_⟩)
        rw [e]
        intro v F' H' n r
        cases r with
        | tup h1 r1 => exact ⟨_, rfl, ⟨_, n.z.sub.st h1⟩, h _ F' H' n (walks_tup h1 r1)⟩
      | str x =>
        refine .inr (.inr ⟨ρ, F, a, ?_⟩)
        rw [e]
        intro v F' H' n r
        cases r
        exact ⟨x, rfl, h _ F' H' n walks_str⟩
      | _ => exact h.elim
def rngD (lo : Int) (n : Nat) : List D := (List.range n).map fun (i : Nat) => D.int (lo + (i : Int))
theorem walks_rng {K : PySem.W.Frag} {F : Hp} {lo : Int} {n : Nat} : Walks K T F (Itr lo n) (rngD lo n) := fun i F' H sb z => by
  refine ⟨fun d hd => ?_, fun hle => ?_⟩
  · unfold rngD at hd
    rw [List.getElem?_map] at hd
    cases e : (List.range n)[i]? with
    | none => rw [e] at hd; cases hd
    | some j =>
      rw [e] at hd
      cases hd
      obtain ⟨h1, h2⟩ := List.getElem?_eq_some_iff.mp e
      rw [List.getElem_range] at h2
      rw [List.length_range] at h1
      subst h2
      refine ⟨h1, fun v H' y => ?_⟩
      obtain ⟨rfl, rfl⟩ := y
      exact ⟨F', Nx.refl z, .int _⟩
  · unfold rngD at hle
    rw [List.length_map, List.length_range] at hle
    exact hle
def rng1 (f : Rho → Res (List D)) : Rho → Res (List D) := fun ρ => (f ρ).bind fun ds => match ds with
  | [.int j] => if -(2 ^ 62) ≤ j ∧ j < 2 ^ 62 then .ok (rngD 0 j.toNat) else .bad
  | _ => .bad
theorem i_rng1 {tg a : Expr} {p pos : Pos} {f : Rho → Res (List D)} (hg : Gl X "range") (hm : X.mg "range" = none) (ha : DA X T W [a] f) (hs : starEach [a] X.env = [(false, eval a X.env)] := by rfl) : DI X T W tg (.Call (.Name "range" p) [a] [] pos) (rng1 f) :=
  (pi_range1 hg hm ha hs).to fun σ H R ⟨ρ, F, a, h⟩ => by
    refine ⟨ρ, F, a, (aft.bind (R := RpAll X.K) h).imp fun d _ v F1 H1 _ _ q => ?_⟩
    obtain ⟨ds, F2, _, n, rv, q⟩ := q
    match ds, rv, q with
    | [.int j], .cons (.int _) .nil, q =>
      have q : aft (fun F J ds => Walks X.K T F J ds) X.K T W σ F2 H1 R (if -(2 ^ 62) ≤ j ∧ j < 2 ^ 62 then .ok (rngD 0 j.toNat) else .bad) := q
      split at q
      · rename_i hj
        exact ⟨j, rfl, hj.1, hj.2, q _ F2 H1 (Nx.refl n.z) walks_rng⟩
      · exact q.elim
end

/-! ### comprehensions -/
def wipeR (ρ : Rho) : List Nat → Rho
  | [] => ρ
  | v :: vs => (wipeR ρ vs).set v .u
def compD (g : Tg) (t : Rho → Res Bool) (e : Rho → Res D) (ρ : Rho) : List D → Res (List D)
  | [] => .ok []
  | d :: ds => match g ρ d with
    | none => .bad
    | some ρ1 => match t ρ1 with
      | .ok b => if b = true then (match e ρ1 with
        | .ok y => (compD g t e ρ ds).bind fun ys => .ok (y :: ys)
        | _ => .bad) else compD g t e ρ ds
      | _ => .bad
def lcD (f : Rho → Res (List D)) (i : Nat) (t : Rho → Res Bool) (e : Rho → Res D) : Rho → Res D := fun ρ => (f ρ).bind fun ds => if ds.length < sizeLine then (compD (gn i) t e (ρ.set i .u) ds).bind fun ys => .ok (.lst ys) else .bad
def yes : Rho → Res Bool := fun _ => .ok true
theorem tabs_upd {T : List (Addr × Str)} {H : Hp} {p : Addr} {xs : List V} {o : HO} (h : Tabs T H) (e : H p = some (.lst xs)) : Tabs T (upd H p o) := fun q hq => by
  obtain ⟨ps, h1, h2, h3⟩ := h q hq
  refine ⟨ps, ?_, h2, fun pos cv hc => ?_⟩
  · rw [upd_ne fun z => by rw [z, e] at h1; cases h1]; exact h1
  · obtain ⟨c, e1, e2⟩ := h3 pos cv hc
    refine ⟨c, e1, ?_⟩
    rw [upd_ne fun z => by rw [z, e] at e2; unfold LamX.CodeO at e2; cases e2]; exact e2
section
variable {X : Cx} {T : List (Addr × Str)} {W : WX} {F0 H0 : Hp}
abbrev W0 : WX := fun _ _ _ _ => False
theorem no_ex {α β : Type} {R : Hp → α → β → Prop} {K : PySem.W.Frag} {σ : L2.St} {F H : Hp} {Q : α → Hp → Prop} {r : Res β} (z : Fz F H) {b : β} (e : r = .ok b) (h : ∀ a F' H', Nx T F H F' H' → R F' a b → Q a H') : aft R K T W0 σ F H Q r := by
  rw [e]; exact h
theorem lc_to {K : PySem.W.Frag} {f : Rho → Res (List D)} {i : Nat} {t : Rho → Res Bool} {e : Rho → Res D} {σ : L2.St} {H : Hp} {Q : VK} (h : tE K T W (lcD f i t e) σ H Q) :
    tLc (tI K T W f) (gName i) (tT K T W0 t) (tE K T W0 e) [i] σ H Q := by
  obtain ⟨ρ, F, a, h⟩ := h
  refine ⟨ρ, F, a, (aft.bind (R := fun F J ds => Walks K T F J ds) h).imp fun d _ J F1 H1 _ _ q => ?_⟩
  obtain ⟨ds, F2, _, n, wk, q⟩ := q
  have q : aft (Rp K) K T W σ F2 H1 Q (if ds.length < sizeLine then (compD (gn i) t e (ρ.set i .u) ds).bind fun ys => .ok (.lst ys) else .bad) := q
  split at q
  · rename_i hlen
    cases hc : compD (gn i) t e (ρ.set i .u) ds with
    | bad => rw [hc] at q; exact q.elim
    | ex m =>
      exfalso
      have : ∀ ds : List D, compD (gn i) t e (ρ.set i .u) ds ≠ .ex m := fun ds => by
        induction ds with
        | nil => intro z; cases z
        | cons d ds ih =>
          intro z
          unfold compD at z
          simp only [gn] at z
          split at z
          · split at z
            · split at z
              · cases e2 : compD (gn i) t e (ρ.set i .u) ds with
                | ok ys => rw [e2] at z; cases z
                | ex m' =>
                  rw [e2] at z
                  cases z
                  exact ih e2
                | bad => rw [e2] at z; cases z
              · cases z
            · exact ih z
          · cases z
      exact this ds hc
    | ok ys =>
      rw [hc] at q
      have a2 := a.nx n
      intro p hp
      -- behind k turns
      refine ⟨fun k m H => m = ds.length - k ∧ k ≤ ds.length ∧ ∃ F' acc dacc rest, Nx T F2 H1 F' H ∧ F' p = none ∧ H p = some (.lst acc) ∧ RpAll K F' acc dacc ∧ acc.length ≤ k ∧ compD (gn i) t e (ρ.set i .u) (ds.drop k) = .ok rest ∧ dacc ++ rest = ys,
        ⟨ds.length, by omega, by omega, F2, [], [], ys, Nx.lay n.z hp, ?_, upd_same, .nil, by simp, hc, rfl⟩, ?_⟩
      · cases z : F2 p with
        | none => rfl
        | some o =>
          have := n.z.sub _ _ z
          rw [hp] at this; cases this
      rintro k m H ⟨rfl, hk, F', acc, dacc, rest, nx, hFp, hHp, ra, la, hr, hy⟩
      obtain ⟨wg, ws⟩ := wk k F' H nx.f nx.z
      by_cases hlt : k < ds.length
      · obtain ⟨go, yl⟩ := wg _ (List.getElem?_eq_getElem hlt)
        rw [List.drop_eq_getElem_cons hlt] at hr
        unfold compD at hr
        simp only [gn] at hr
        refine .inr ⟨go, fun H => ∃ F' acc dacc rest, Nx T F2 H1 F' H ∧ F' p = none ∧ H p = some (.lst acc) ∧ RpAll K F' acc dacc ∧ acc.length ≤ k + 1 ∧ compD (gn i) t e (ρ.set i .u) (ds.drop (k + 1)) = .ok rest ∧ dacc ++ rest = ys, fun H' w => ⟨ds.length - (k + 1), by omega, rfl, by omega, w⟩, fun x H' y => ?_⟩
        obtain ⟨F3, n3, rx⟩ := yl x H' y
        have hp3 : H' p = some (.lst acc) := n3.keep hHp ntL
        have hf3 : F3 p = none := n3.out hHp ntL hFp
        have a3 : At K T F3 H' (σ.set i none) (ρ.set i .u) := ⟨n3.z, (nx.trans n3).tab a2.t, (a2.r.mono (nx.trans n3)).wipe1⟩
        have a4 : At K T F3 H' ((σ.set i none).set i (some x)) ((ρ.set i .u).set i (.z ds[k])) := ⟨a3.z, a3.t, a3.r.set rx⟩
        show wipe ((σ.set i none).set i (some x)) [i] = wipe σ [i] ∧ _
        refine ⟨?_, ?_⟩
        · show ((σ.set i none).set i (some x)).set i none = σ.set i none
          rw [List.set_set, List.set_set]
        · cases ht : t ((ρ.set i .u).set i (.z ds[k])) with
          | bad => rw [ht] at hr; cases hr
          | ex m => rw [ht] at hr; cases hr
          | ok b =>
            rw [ht] at hr
            refine ⟨_, F3, a4, no_ex a4.z ht fun b' F4 H4 n4 rb => ?_⟩
            obtain rfl : b' = b := rb
            cases b' with
            | false =>
              show ∃ F' acc dacc rest, _
              have hr : compD (gn i) t e (ρ.set i .u) (ds.drop (k + 1)) = .ok rest := hr
              exact ⟨F4, acc, dacc, rest, (nx.trans n3).trans n4, n4.out hp3 ntL hf3, n4.keep hp3 ntL, ra.mono (n3.trans n4).f, by omega, hr, hy⟩
            | true =>
              have hr : (match e ((ρ.set i .u).set i (.z ds[k])) with
                | .ok y => (compD (gn i) t e (ρ.set i .u) (ds.drop (k + 1))).bind fun ys => .ok (y :: ys)
                | _ => .bad) = .ok rest := hr
              cases he : e ((ρ.set i .u).set i (.z ds[k])) with
              | bad => rw [he] at hr; cases hr
              | ex m => rw [he] at hr; cases hr
              | ok y =>
                rw [he] at hr
                have hr : (compD (gn i) t e (ρ.set i .u) (ds.drop (k + 1))).bind (fun ys => .ok (y :: ys)) = .ok rest := hr
                cases hr2 : compD (gn i) t e (ρ.set i .u) (ds.drop (k + 1)) with
                | bad => rw [hr2] at hr; cases hr
                | ex m => rw [hr2] at hr; cases hr
                | ok rest' =>
                  rw [hr2] at hr
                  cases hr
                  show tE K T W0 e _ H4 _
                  refine ⟨_, F4, a4.nx n4, no_ex n4.z he fun v F5 H5 n5 rv => ?_⟩
                  have hp5 : H5 p = some (.lst acc) := (n4.trans n5).keep hp3 ntL
                  have hf5 : F5 p = none := (n4.trans n5).out hp3 ntL hf3
                  have n6 := (nx.trans n3).trans (n4.trans n5)
                  refine ⟨acc, hp5, by omega, F5, acc ++ [v], dacc ++ [y], rest', ⟨n6.f, ⟨fun b o eb => ?_, n6.z.nt⟩, fun b o eb no => ?_, n6.new, fun tb => tabs_upd (n6.tab tb) hp5⟩, hf5, upd_same, ?_, by rw [List.length_append]; simp; omega, rfl, by rw [List.append_assoc]; exact hy⟩
                  · rw [upd_ne fun z => by rw [z, hf5] at eb; cases eb]
                    exact n6.z.sub _ _ eb
                  · rw [upd_ne fun z => by rw [z, hp] at eb; cases eb]
                    exact n6.h _ _ eb no
                  · exact (ra.mono ((n3.trans n4).trans n5).f).append (.cons rv .nil)
      · have ek : k = ds.length := by omega
        subst ek
        refine .inl ⟨ws (Nat.le_refl _), ?_⟩
        rw [List.drop_length] at hr
        cases hr
        rw [List.append_nil] at hy
        subst hy
        refine q (.ref p) (upd F' p (.lst acc)) H ⟨fun b o eb => ?_, ⟨fun b o eb => ?_, fun b ps eb => ?_⟩, nx.h, fun b o eb => ?_, nx.tab⟩ (.lst upd_same (ra.mono fun b o eb => ?_))
        · rw [upd_ne fun z => by rw [z] at eb; rw [nx.f _ _ eb] at hFp; cases hFp]
          exact nx.f _ _ eb
        · by_cases hb : b = p
          · subst hb; rw [upd_same] at eb; rw [← eb]; exact hHp
          · rw [upd_ne hb] at eb; exact nx.z.sub _ _ eb
        · by_cases hb : b = p
          · subst hb; rw [upd_same] at eb; cases eb
          · rw [upd_ne hb] at eb; exact nx.z.nt _ _ eb
        · by_cases hb : b = p
          · subst hb
            exact .inr fun o' e' => by rw [hp] at e'; cases e'
          · rw [upd_ne hb] at eb; exact nx.new _ _ eb
        · rw [upd_ne fun z => by rw [z, hFp] at eb; cases eb]; exact eb
  · exact q.elim
theorem ts_nil : PTs X [] (tT X.K T W yes) := ⟨fun pins s σ H Q I ⟨ρ, F, a, h⟩ => pts_nil.run pins s σ H Q I (h true F H (Nx.refl a.z) rfl)⟩
theorem e_lc {elt tg iter : Expr} {ifs : List Expr} {scope : Scope} {x : Str} {i : Nat} {pos : Pos} {f : Rho → Res (List D)} {t : Rho → Res Bool} {e : Rho → Res D} (hc : X.calm = true) (hN : X.N.Nodup) (hi : DI X T W tg iter f) (ok : BlkOk X.N X.env.scope scope [(x, i)])
    (hg : ∀ (s : Shared) (H : Hp) (C : Addr) (cl : List (Str × Addr)) (fp : List Addr), PG (X.blk s H scope (compEnvC scope cl C X.env) fp) tg (gName i))
    (ht : ∀ (s : Shared) (H : Hp) (C : Addr) (cl : List (Str × Addr)) (fp : List Addr), PTs (X.blk s H scope (compEnvC scope cl C X.env) fp) ifs (tT X.K T W0 t))
    (he : ∀ (s : Shared) (H : Hp) (C : Addr) (cl : List (Str × Addr)) (fp : List Addr), DE (X.blk s H scope (compEnvC scope cl C X.env) fp) T W0 elt e) (hs : ∀ x, foldedSetIterable iter X.env x = pure x := by intro _; rfl) :
    DE X T W (.ListComp elt [⟨tg, iter, ifs, 0⟩] scope pos) (lcD f i t e) :=
  (pe_lc (own := [(x, i)]) hc hN hi ok hg ht he hs).to fun _ _ _ h => lc_to h
theorem s_setLc {j : Nat} {y : Str} {py : Pos} {elt tg iter : Expr} {ifs : List Expr} {scope : Scope} {x : Str} {i : Nat} {pos spos : Pos} {f : Rho → Res (List D)} {t : Rho → Res Bool} {e : Rho → Res D} (hc : X.calm = true) (hN : X.N.Nodup) (hy : X.N[j]? = some y) (hyl : X.env.scope.names.lookup y = some .local)
    (hsw : swapsWith (.ListComp elt [⟨tg, iter, ifs, 0⟩] scope pos) (some (.Name y py)) spos.line X.env = pure true) (hi : DI X T W tg iter f) (ok : BlkOk X.N X.env.scope scope [(x, i)])
    (hg : ∀ (s : Shared) (H : Hp) (C : Addr) (cl : List (Str × Addr)) (fp : List Addr), PG (X.blk s H scope (compEnvC scope cl C X.env) fp) tg (gName i))
    (ht : ∀ (s : Shared) (H : Hp) (C : Addr) (cl : List (Str × Addr)) (fp : List Addr), PTs (X.blk s H scope (compEnvC scope cl C X.env) fp) ifs (tT X.K T W0 t))
    (he : ∀ (s : Shared) (H : Hp) (C : Addr) (cl : List (Str × Addr)) (fp : List Addr), DE (X.blk s H scope (compEnvC scope cl C X.env) fp) T W0 elt e) (hs : ∀ x, foldedSetIterable iter X.env x = pure x := by intro _; rfl) :
    DS X T W F0 H0 (.Assign [.Name y py] (.ListComp elt [⟨tg, iter, ifs, 0⟩] scope pos) spos) (sasg (lcD f i t e) (gn j)) :=
  (ps_setLc (own := [(x, i)]) hc hN hy hyl hsw hi ok hg ht he hs).to fun Z σ H h => by
    have h2 := sasg_to h
    obtain ⟨ρ, F, a, h2⟩ := h2
    refine lc_to ⟨ρ, F, a, h2.imp fun d _ v F1 H1 n r q => ?_⟩
    obtain ⟨ρ2, F2, d2, ρ3, a2, r2, hg2, q⟩ := q
    cases hg2
    exact q _ ⟨a2.z, a2.t, a2.r.set r2⟩ fun H0 o => o.set
end

/-! ### defs -/
def startR (n : Nat) (ds : List D) : Rho := ds.map En.z ++ List.replicate (n - ds.length) .u
def runB (n : Nat) (s : Rho → SR) (ds : List D) : Res D := match s (startR n ds) with
  | .nx _ => .ok .non
  | .rt d => .ok d
  | .ex m _ => .ex m
  | _ => .bad
abbrev WofE (E : XK) : WX := fun cls d _ H => E cls d H
def spD (K : PySem.W.Frag) (T : List (Addr × Str)) (n : Nat) (den : List D → Res D) : Sp := fun vs H Q E => ∃ F ds, Fz F H ∧ Tabs T H ∧ RpAll K F vs ds ∧ ds.length = n ∧ aft (Rp K) K T (WofE E) [] F H Q (den ds)
def callD (n : Nat) (den : List D → Res D) (f : Rho → Res (List D)) : Rho → Res D := fun ρ => (f ρ).bind fun ds => if ds.length = n then den ds else .bad
theorem Rl.start {K : PySem.W.Frag} {F H : Hp} {vs : List V} {ds : List D} {N : List Str} (r : RpAll K F vs ds) : Rl K F H (L2.start N vs) (startR N.length ds) := by
  have hl := r.length
  have key : ∀ (i : Nat) (en : En), (startR N.length ds)[i]? = some en → (∃ d, ds[i]? = some d ∧ en = .z d) ∨ en = .u := fun i en h => by
    unfold startR at h
    rw [List.getElem?_append] at h
    split at h
    · rw [List.getElem?_map] at h
      cases e : ds[i]? with
      | none => rw [e] at h; cases h
      | some d => rw [e] at h; cases h; exact .inl ⟨d, rfl, rfl⟩
    · rw [List.getElem?_replicate] at h
      split at h
      · cases h; exact .inr rfl
      · cases h
  refine ⟨?_, fun i d h => ?_, fun i d h => ?_, fun i j d e p q _ h => ?_⟩
  · unfold L2.start startR
    simp [hl]
  · rcases key i _ h with ⟨d', e, z⟩ | z
    · cases z
      obtain ⟨v, hv, rv⟩ := r.get e
      refine ⟨v, ?_, rv⟩
      unfold L2.start
      rw [List.getElem?_append_left (by rw [List.length_map]; exact (List.getElem?_eq_some_iff.mp hv).1), List.getElem?_map, hv]
      rfl
    · cases z
  · rcases key i _ h with ⟨d', e, z⟩ | z <;> cases z
  · rcases key i _ h with ⟨d', e, z⟩ | z <;> cases z
structure OkD (P : Program) (w : World) (K : PySem.W.Frag) (mg : Str → Option Value) (base : Heap) (T : List (Addr × Str)) (k : Nat) (x : Str) (n : Nat) (den : List D → Res D) : Prop where
  ex : ∃ fd ps, FnOk P w K mg base (L2.CX P w) k (He.ga K x) fd ps (spD K T n den) ∧ Binds K fd ps []
  kp : PySem.W.keepIn K (.ref (He.ga K x)) = true
  mg : mg x = some (.ref (He.ga K x))
theorem fn_ok {P : Program} {w : World} {K : PySem.W.Frag} {mg : Str → Option Value} {base : Heap} {T : List (Addr × Str)} {k : Nat} {x qual : Str} {params : Arguments} {body : List Stmt} {scope : Scope} {kws : List (Str × V)} {f : Addr} {fd : FuncData} {N ps : List Str} {n : Nat} {s : Rho → SR}
    (Fd : FunD K x qual params body scope [] kws f fd) (S : FnScope N ps scope) (hn : ps.length = n)
    (hb : ∀ (cdv : Value) (A : Around) (outer : List Env) (s0 : Shared) (H0 : Hp) (E : XK) (F0 : Hp), Room k (A.deeper (envOfC qual scope s0.heap.objs.size f cdv)) → DSs (cxOf (L2.CX P w) P w K mg base N qual scope f cdv A outer s0 H0 E) T (WofE E) F0 H0 body s) :
    FnOk P w K mg base (L2.CX P w) (k + 1) f fd ps (spD K T n (runB N.length s)) := by
  refine Fd.ok S (fun vs H Q E h => ?_) fun cdv A outer s0 H vs Q E hr h => ?_
  · obtain ⟨F, ds, _, _, r, hl, _⟩ := h
    rw [r.length, hl, hn]
  · obtain ⟨F, ds, z, tb, r, hl, h⟩ := h
    refine ⟨_, hb cdv A outer s0 H E F hr, startR N.length ds, F, ⟨⟨z, tb, Rl.start r⟩, Nx.refl z, fun i d p h1 => ?_⟩, ?_⟩
    · exfalso
      have o := (Rl.start (K := K) (F := F) (H := H) (N := N) r)
      unfold startR at h1
      rw [List.getElem?_append] at h1
      split at h1
      · rw [List.getElem?_map] at h1
        cases e : ds[i]? with
        | none => rw [e] at h1; cases h1
        | some d => rw [e] at h1; cases h1
      · rw [List.getElem?_replicate] at h1
        split at h1 <;> cases h1
    · unfold runB at h
      cases e : s (startR N.length ds) with
      | nx ρ => rw [e] at h; exact fun σ F' H' g _ => h .non F' H' g.nx .non
      | rt d => rw [e] at h; exact fun v F' H' nx rv => h v F' H' nx rv
      | ex m ρ => rw [e] at h; exact fun σ F' H' g _ => h F' H' g.nx
      | bk ρ => rw [e] at h; exact h.elim
      | ct ρ => rw [e] at h; exact h.elim
      | bad => rw [e] at h; exact h.elim
section
variable {X : Cx} {T : List (Addr × Str)} {W : WX} {F0 H0 : Hp}
theorem call_to {K : PySem.W.Frag} {n : Nat} {den : List D → Res D} {f : Rho → Res (List D)} {σ : L2.St} {H : Hp} {Q : VK} (h : tE K T W (callD n den f) σ H Q) : tCallS (spD K T n den) (WE W) (tA K T W f) σ H Q := by
  obtain ⟨ρ, F, a, h⟩ := h
  refine ⟨ρ, F, a, (aft.bind (R := RpAll K) h).imp fun d _ v F1 H1 _ _ q => ?_⟩
  obtain ⟨b, F2, _, nx, rv, q⟩ := q
  have q : aft (Rp K) K T W σ F2 H1 Q (if b.length = n then den b else .bad) := q
  split at q
  · rename_i hl
    refine ⟨F2, b, nx.z, nx.tab a.t, rv, hl, ?_⟩
    cases e : den b with
    | ok d => rw [e] at q; exact q
    | ex m => rw [e] at q; exact q
    | bad => rw [e] at q; exact q.elim
  · exact q.elim
theorem e_call {j k n : Nat} {x : Str} {den : List D → Res D} {e : Expr} {es : List Expr} {p pos : Pos} {f : Rho → Res (List D)} (O : OkD X.prog X.w X.K X.mg X.base T j x n den) (hr : Room k X.A) (tk : Takes X W) (hg : Gl X x) (ha : DA X T W (e :: es) f) (hj : j ≤ k := by decide)
    (hdb : (x == ("__debug__" : Str)) = false := by decide) (he : starEach (e :: es) X.env = (false, eval e X.env) :: starEach es X.env := by rfl) (hpl : (backTo pos (starEach es X.env)).any (·.1) = false := by rfl) :
    DE X T W (.Call (.Name x p) (e :: es) [] pos) (callD n den f) := by
  obtain ⟨fd, ps, G, b⟩ := O.ex
  exact (pe_callS (E := WE W) G (hr.mono hj) hg O.mg O.kp b (fun σ => passAt tk σ) ha hdb he hpl).to fun _ _ _ h => call_to h
/-- what is known of an own error class -/
structure ExcN (K : PySem.W.Frag) (mg : Str → Option Value) (x : Str) : Prop where
  e : PySem.W.excIn K (He.ga K x) He.veBase "ValueError.__new__" = true
  k : PySem.W.keepIn K (.ref (He.ga K x)) = true
  b : PySem.W.subIn K (.ref (He.ga K x)) (.type "BaseException") = some true
  t : PySem.W.typeIn K (.ref (He.ga K x)) = some (.type "type")
  g : mg x = some (.ref (He.ga K x))
def sraise (x : Str) : Rho → SR := fun ρ => .ex x ρ
theorem s_raise {x m : Str} {j : Nat} {p p2 pos pos2 : Pos} (N : ExcN X.K X.mg x) (hc : X.calm = true) (tk : Takes X W) (hg : Gl X x) (hdb : (x == ("__debug__" : Str)) = false := by decide) : DS X T W F0 H0 (.Raise (some (.Call (.Name x p) [.Constant (.str m) j p2] [] pos)) none pos2) (sraise x) :=
  (ps_raise hc tk (pmk_own PySem.F.excBase_ValueError N.e N.g N.k (raises_own N.b N.t) hg hdb)).to fun Z σ H ⟨ρ, F, g, h⟩ => h σ F H g (Sub.refl F)
end
end DN
namespace DN
open PySem PySem.Spec PyProof.Rows L2
open LamX (Tabs ExtN)

/-! ### the module's names -/
section
variable {X : Cx} {T : List (Addr × Str)} {W : WX}
theorem e_gint {x : Str} {i : Int} {pos : Pos} (h : ∃ t, X.mg x = some (.int i t)) (hg : Gl X x) (hd : (x == ("__debug__" : Str)) = false := by decide) : DE X T W (.Name x pos) (con (.int i)) := by
  obtain ⟨t, h⟩ := h
  exact e_c (pe_glob (v := .int i) hg h ⟨t, rfl⟩ hd) fun _ => .int i
end
theorem bt_len : bootBuiltins "len" = some (.builtin "len") := by decide +kernel
theorem bt_abs : bootBuiltins "abs" = some (.builtin "abs") := by decide +kernel
theorem bt_max : bootBuiltins "max" = some (.builtin "max") := by decide +kernel
theorem bt_min : bootBuiltins "min" = some (.builtin "min") := by decide +kernel
theorem bt_isinstance : bootBuiltins "isinstance" = some (.builtin "isinstance") := by decide +kernel
theorem bt_int : bootBuiltins "int" = some (.type "int") := by decide +kernel
theorem bt_str : bootBuiltins "str" = some (.type "str") := by decide +kernel
theorem bt_tuple : bootBuiltins "tuple" = some (.type "tuple") := by decide +kernel
/-! ### the end -/
theorem start_arr {K : PySem.W.Frag} {H : Hp} {a : Addr} {ns : List Int} (h : SqL K H a (ns.map V.int)) : ∃ F, Fz F H ∧ Rp K F (.ref a) (.arr ns) := by
  rcases h with (h | ⟨o, h⟩) | h
  · refine ⟨fun b => if b = a then some (.lst (ns.map V.int)) else none, ⟨fun b o e => ?_, fun b ps e => ?_⟩, .arr (.inl (.inl (if_pos rfl)))⟩
    · by_cases hb : b = a
      · rw [if_pos hb] at e; rw [hb, h]; exact e
      · rw [if_neg hb] at e; cases e
    · by_cases hb : b = a
      · rw [if_pos hb] at e; cases e
      · rw [if_neg hb] at e; cases e
  · refine ⟨fun b => if b = a then some (.frz o (.lst (ns.map V.int))) else none, ⟨fun b o e => ?_, fun b ps e => ?_⟩, .arr (.inl (.inr ⟨o, if_pos rfl⟩))⟩
    · by_cases hb : b = a
      · rw [if_pos hb] at e; rw [hb, h]; exact e
      · rw [if_neg hb] at e; cases e
    · by_cases hb : b = a
      · rw [if_pos hb] at e; cases e
      · rw [if_neg hb] at e; cases e
  · exact ⟨fun _ => none, ⟨(fun b o e => nomatch e), (fun b ps e => nomatch e)⟩, .arr (.inr h)⟩
theorem law_sp {K : PySem.W.Frag} {T : List (Addr × Str)} {H : Hp} {a : Addr} {ns : List Int} {den : List D → Res D} (hT : Tabs T H) (h : SqL K H a (ns.map V.int)) (hd : den [.arr ns] = .ok (.bl true)) : spD K T 1 den [.ref a] H (fun v _ => v = .bl true) fun _ _ _ => False := by
  obtain ⟨F, z, r⟩ := start_arr h
  refine ⟨F, [.arr ns], z, hT, .cons r .nil, rfl, ?_⟩
  rw [hd]
  intro v F' H' n rv
  cases rv
  rfl
theorem cx_false {P : Program} {w : World} {l : List Env} {H : Hp} {s : Shared} {e : Value} {s' : Shared} (h : L2.CX P w l H s (fun _ _ _ => False) e s') : False := by
  obtain ⟨_, _, _, _, _, _, _, _, _, _, _, _, z⟩ := h
  exact z.elim
end DN
namespace HT
open PySem PyProof.Rows
section
variable {prog : Program} {w : World} {A : Around} {E : Value → Shared → Prop} {s : Shared}
end
end HT
namespace DN
open PySem PySem.Spec PyProof.Rows L2
open LamX (Tabs ExtN)
section
variable {X : Cx}
end
theorem _root_.L2.PE.or {X : Cx} {e : Expr} {t u : TE} (h : PE X e t) (h2 : PE X e u) : PE X e (fun σ H Q => t σ H Q ∨ u σ H Q) := ⟨fun pins s σ H Q I q => q.elim (h.run pins s σ H Q I) (h2.run pins s σ H Q I)⟩
section
variable {X : Cx} {T : List (Addr × Str)} {W : WX}
end
end DN
namespace DN
open PySem PySem.Spec PyProof.Rows L2

/-! ### evaluating functions of data -/
def app2 (G : D → D → Option D) : Res D → Res D → Res D
  | .ok a, .ok b => ofO (G a b)
  | .ok _, .ex n => .ex n
  | .ok _, .bad => .bad
  | .ex n, _ => .ex n
  | .bad, _ => .bad
def app1 (G : D → Option D) (r : Res D) : Res D := r.bind fun a => ofO (G a)
def appL (G : List D → Option D) (r : Res (List D)) : Res D := r.bind fun a => ofO (G a)
def consR : Res D → Res (List D) → Res (List D)
  | .ok a, .ok b => .ok (a :: b)
  | .ok _, .ex n => .ex n
  | .ok _, .bad => .bad
  | .ex n, _ => .ex n
  | .bad, _ => .bad
def callR (n : Nat) (den : List D → Res D) (r : Res (List D)) : Res D := r.bind fun ds => if ds.length = n then den ds else .bad
def tstR (r : Res D) : Res Bool := r.bind ans
def seqR (r : SR) (t : Rho → SR) : SR := match r with
  | .nx ρ => t ρ
  | r => r
def retR (r : Res D) (ρ : Rho) : SR := bindS r ρ .rt
def asgR (r : Res D) (ρ : Rho) (g : Tg) : SR := bindS r ρ fun d => match g ρ d with
  | some ρ' => .nx ρ'
  | none => .bad
def ifR (r : Res Bool) (s t : Rho → SR) (ρ : Rho) : SR := bindS r ρ fun b => if b = true then s ρ else t ρ
def finR : SR → Res D
  | .nx _ => .ok .non
  | .rt d => .ok d
  | .ex m _ => .ex m
  | _ => .bad
def andR (r : Res Bool) (g : Rho → Res Bool) (ρ : Rho) : Res Bool := r.bind fun b => if b = true then g ρ else .ok false
def orR (r : Res Bool) (g : Rho → Res Bool) (ρ : Rho) : Res Bool := r.bind fun b => if b = true then .ok true else g ρ
def notR (r : Res Bool) : Res Bool := r.bind fun b => .ok (!b)
def andER (r : Res D) (g : Rho → Res D) (ρ : Rho) : Res D := r.bind fun d => (ans d).bind fun b => if b = true then g ρ else .ok (.bl false)
def orER (r : Res D) (g : Rho → Res D) (ρ : Rho) : Res D := r.bind fun d => (ans d).bind fun b => if b = true then .ok (.bl true) else g ρ
def notER (r : Res D) : Res D := r.bind fun d => (ans d).bind fun b => .ok (.bl (!b))
def mkTR (r : Res (List D)) : Res D := r.bind fun ds => if ds.length ≤ sizeLine then .ok (.tup ds) else .bad
def mkLR (r : Res (List D)) : Res D := r.bind fun ds => if ds.length ≤ sizeLine then .ok (.lst ds) else .bad
def slcR (r : Res D) (lo hi : Res (Option Int)) : Res D := r.bind fun d => lo.bind fun lo => hi.bind fun hi => ofO (slD d lo hi)
def psmR (r : Res D) : Res (Option Int) := r.bind intO
def forR (r : Res (List D)) (g : Tg) (s : Rho → SR) (ρ : Rho) : SR := bindS r ρ fun ds => loopD g s ds ρ
def chnR (G G' : D → D → Option D) (a b c : Res D) : Res D := a.bind fun d => b.bind fun e => (ofO (G d e)).bind fun z => (ans z).bind fun k => if k = true then c.bind fun c => ofO (G' e c) else .ok (.bl false)
theorem runB_eq {n : Nat} {g : Rho → SR} {ds : List D} {ρ : Rho} (h : startR n ds = ρ) : runB n g ds = finR (g ρ) := by
  subst h
  unfold runB finR
  cases g (startR n ds) <;> rfl
section
variable {ρ : Rho}
theorem bin_def {G f g} : bop G f g ρ = app2 G (f ρ) (g ρ) := by
  unfold bop app2
  cases f ρ <;> cases g ρ <;> rfl
theorem una_def {G f} : una G f ρ = app1 G (f ρ) := rfl
theorem cal_def {G f} : cal G f ρ = appL G (f ρ) := rfl
theorem acons_def {f g} : acons f g ρ = consR (f ρ) (g ρ) := by
  unfold acons consR
  cases f ρ <;> cases g ρ <;> rfl
theorem anil_def : anil ρ = .ok [] := rfl
theorem con_def {d} : con d ρ = .ok d := rfl
theorem callD_def {n den f} : callD n den f ρ = callR n den (f ρ) := rfl
theorem tst_def {f} : tst f ρ = tstR (f ρ) := rfl
theorem sseq_def {s t} : sseq s t ρ = seqR (s ρ) t := by
  unfold sseq seqR
  cases s ρ <;> rfl
theorem sret_def {f} : sret f ρ = retR (f ρ) ρ := rfl
theorem sasg_def {f g} : sasg f g ρ = asgR (f ρ) ρ g := rfl
theorem sif_def {c s t} : sif c s t ρ = ifR (c ρ) s t ρ := rfl
theorem sskip_def : sskip ρ = .nx ρ := rfl
theorem sraise_def {x} : sraise x ρ = .ex x ρ := rfl
theorem andQ_def {f g} : andQ f g ρ = andR (f ρ) g ρ := rfl
theorem orQ_def {f g} : orQ f g ρ = orR (f ρ) g ρ := rfl
theorem notQ_def {f} : notQ f ρ = notR (f ρ) := rfl
theorem andE_def {f g} : andE f g ρ = andER (f ρ) g ρ := rfl
theorem orE_def {f g} : orE f g ρ = orER (f ρ) g ρ := rfl
theorem notE_def {f} : notE f ρ = notER (f ρ) := rfl
theorem mkT_def {f} : mkT f ρ = mkTR (f ρ) := rfl
theorem mkL_def {f} : mkL f ρ = mkLR (f ρ) := rfl
theorem slc_def {f g h} : slc f g h ρ = slcR (f ρ) (g ρ) (h ρ) := rfl
theorem psm_def {f} : psm f ρ = psmR (f ρ) := rfl
theorem pno_def : pno ρ = .ok none := rfl
theorem sfor_def {f g s} : sfor f g s ρ = forR (f ρ) g s ρ := rfl
theorem chn_def {G G' f g h} : chn G G' f g h ρ = chnR G G' (f ρ) (g ρ) (h ρ) := rfl
theorem var_zero {d r} : var 0 (.z d :: r) = .ok d := rfl
theorem var_succ {n x r} : var (n + 1) (x :: r) = var n r := rfl
theorem app2_ok {G a b} : app2 G (.ok a) (.ok b) = ofO (G a b) := rfl
theorem app1_ok {G a} : app1 G (.ok a) = ofO (G a) := rfl
theorem appL_ok {G a} : appL G (.ok a) = ofO (G a) := rfl
theorem consR_ok {a b} : consR (.ok a) (.ok b) = .ok (a :: b) := rfl
theorem ofO_some {α} {a : α} : ofO (some a) = .ok a := rfl
theorem call0 {den} : callR 0 den (.ok []) = den [] := rfl
theorem call1 {den a} : callR 1 den (.ok [a]) = den [a] := rfl
theorem call2 {den a b} : callR 2 den (.ok [a, b]) = den [a, b] := rfl
theorem call3 {den a b c} : callR 3 den (.ok [a, b, c]) = den [a, b, c] := rfl
theorem call4 {den a b c d} : callR 4 den (.ok [a, b, c, d]) = den [a, b, c, d] := rfl
theorem call5 {den a b c d e} : callR 5 den (.ok [a, b, c, d, e]) = den [a, b, c, d, e] := rfl
theorem tstR_ok {b} : tstR (.ok (.bl b)) = .ok b := rfl
theorem seqR_nx {t} : seqR (.nx ρ) t = t ρ := rfl
theorem seqR_rt {d t} : seqR (.rt d) t = .rt d := rfl
theorem seqR_ex {n t} : seqR (.ex n ρ) t = .ex n ρ := rfl
theorem retR_ok {d} : retR (.ok d) ρ = .rt d := rfl
theorem retR_ex {n} : retR (.ex n) ρ = .ex n ρ := rfl
theorem asgR_n {d i} : asgR (.ok d) ρ (gn i) = .nx (ρ.set i (.z d)) := rfl
theorem asgR_ex {n g} : asgR (.ex n) ρ g = .ex n ρ := rfl
theorem asgR_2 {a b i j} : asgR (.ok (.tup [a, b])) ρ (gt 2 (gsc (gn i) (gsc (gn j) gsn))) = .nx ((ρ.set i (.z a)).set j (.z b)) := rfl
theorem asgR_2L {a b i j} : asgR (.ok (.lst [a, b])) ρ (gt 2 (gsc (gn i) (gsc (gn j) gsn))) = .nx ((ρ.set i (.z a)).set j (.z b)) := rfl
theorem asgR_3 {a b c i j k} : asgR (.ok (.tup [a, b, c])) ρ (gt 3 (gsc (gn i) (gsc (gn j) (gsc (gn k) gsn)))) = .nx (((ρ.set i (.z a)).set j (.z b)).set k (.z c)) := rfl
theorem ifR_t {s t} : ifR (.ok true) s t ρ = s ρ := rfl
theorem ifR_f {s t} : ifR (.ok false) s t ρ = t ρ := rfl
theorem finR_rt {d} : finR (.rt d) = .ok d := rfl
theorem finR_nx : finR (.nx ρ) = .ok .non := rfl
theorem finR_ex {n} : finR (.ex n ρ) = .ex n := rfl
theorem andR_t {g} : andR (.ok true) g ρ = g ρ := rfl
theorem andR_f {g} : andR (.ok false) g ρ = .ok false := rfl
theorem orR_t {g} : orR (.ok true) g ρ = .ok true := rfl
theorem orR_f {g} : orR (.ok false) g ρ = g ρ := rfl
theorem notR_ok {b} : notR (.ok b) = .ok (!b) := rfl
theorem andER_t {g} : andER (.ok (.bl true)) g ρ = g ρ := rfl
theorem andER_f {g} : andER (.ok (.bl false)) g ρ = .ok (.bl false) := rfl
theorem orER_t {g} : orER (.ok (.bl true)) g ρ = .ok (.bl true) := rfl
theorem orER_f {g} : orER (.ok (.bl false)) g ρ = g ρ := rfl
theorem notER_ok {b} : notER (.ok (.bl b)) = .ok (.bl (!b)) := rfl
theorem psmR_ok {i} : psmR (.ok (.int i)) = .ok (some i) := rfl
theorem slcR_ok {d lo hi} : slcR (.ok d) (.ok lo) (.ok hi) = ofO (slD d lo hi) := rfl
theorem while_t {c s n ρ'} (h : c ρ = .ok true) (h2 : s ρ = .nx ρ') : whileD c s (n + 1) ρ = whileD c s n ρ' := by
  show bindS (c ρ) ρ (fun b => if b = true then (match s ρ with | .nx ρ' => whileD c s n ρ' | .ct ρ' => whileD c s n ρ' | .bk ρ' => .nx ρ' | r => r) else .nx ρ) = _
  rw [h, h2]
  rfl
theorem while_f {c s n} (h : c ρ = .ok false) : whileD c s (n + 1) ρ = .nx ρ := by
  show bindS (c ρ) ρ (fun b => if b = true then (match s ρ with | .nx ρ' => whileD c s n ρ' | .ct ρ' => whileD c s n ρ' | .bk ρ' => .nx ρ' | r => r) else .nx ρ) = _
  rw [h]
  rfl
theorem loop_nil {g s} : loopD g s [] ρ = .nx ρ := rfl
theorem loop_cons {g s d ds ρ1 ρ'} (h : g ρ d = some ρ1) (h2 : s ρ1 = .nx ρ') : loopD g s (d :: ds) ρ = loopD g s ds ρ' := by
  show (match g ρ d with | none => SR.bad | some ρ1 => match s ρ1 with | .nx ρ' => loopD g s ds ρ' | .ct ρ' => loopD g s ds ρ' | .bk ρ' => .nx ρ' | r => r) = _
  rw [h]
  show (match s ρ1 with | .nx ρ' => loopD g s ds ρ' | .ct ρ' => loopD g s ds ρ' | .bk ρ' => .nx ρ' | r => r) = _
  rw [h2]
theorem forR_ok {ds g s} : forR (.ok ds) g s ρ = loopD g s ds ρ := rfl
theorem mkTR_ok {ds : List D} (h : ds.length ≤ 1000000) : mkTR (.ok ds) = .ok (.tup ds) := by
  show (if ds.length ≤ sizeLine then Res.ok (D.tup ds) else .bad) = _
  rw [if_pos (by rw [sizeLine_eq]; omega)]
theorem mkLR_ok {ds : List D} (h : ds.length ≤ 1000000) : mkLR (.ok ds) = .ok (.lst ds) := by
  show (if ds.length ≤ sizeLine then Res.ok (D.lst ds) else .bad) = _
  rw [if_pos (by rw [sizeLine_eq]; omega)]
theorem chn_le {i j k} : chnR leD leD (.ok (.int i)) (.ok (.int j)) (.ok (.int k)) = .ok (.bl (decide (i ≤ j) && decide (j ≤ k))) := by
  show (if decide (i ≤ j) = true then Res.ok (D.bl (decide (j ≤ k))) else .ok (.bl false)) = _
  cases decide (i ≤ j) <;> rfl
theorem chn_lt {i j k} : chnR leD ltD (.ok (.int i)) (.ok (.int j)) (.ok (.int k)) = .ok (.bl (decide (i ≤ j) && decide (j < k))) := by
  show (if decide (i ≤ j) = true then Res.ok (D.bl (decide (j < k))) else .ok (.bl false)) = _
  cases decide (i ≤ j) <;> rfl
/-! the operators on what they are for -/
theorem add_ii {i j} : addD (.int i) (.int j) = some (.int (i + j)) := rfl
theorem sub_ii {i j} : subD (.int i) (.int j) = some (.int (i - j)) := rfl
theorem neg_i {i} : negD (.int i) = some (.int (-i)) := rfl
theorem lt_ii {i j} : ltD (.int i) (.int j) = some (.bl (decide (i < j))) := rfl
theorem le_ii {i j} : leD (.int i) (.int j) = some (.bl (decide (i ≤ j))) := rfl
theorem gt_ii {i j} : gtD (.int i) (.int j) = some (.bl (decide (j < i))) := rfl
theorem ge_ii {i j} : geD (.int i) (.int j) = some (.bl (decide (j ≤ i))) := rfl
theorem eq_ii {i j} : eqD (.int i) (.int j) = some (.bl (i == j)) := by simp [eqD, eqOk, flatD, eqd]
theorem ne_ii {i j} : neD (.int i) (.int j) = some (.bl (!(i == j))) := by simp [neD, eqOk, flatD, eqd]
theorem eq_ss {i j} : eqD (.str i) (.str j) = some (.bl (i == j)) := by simp [eqD, eqOk, flatD, eqd]
theorem ne_ss {i j} : neD (.str i) (.str j) = some (.bl (!(i == j))) := by simp [neD, eqOk, flatD, eqd]
theorem eq_bb {i j} : eqD (.bl i) (.bl j) = some (.bl (i == j)) := by simp [eqD, eqOk, flatD, eqd]
theorem ne_bb {i j} : neD (.bl i) (.bl j) = some (.bl (!(i == j))) := by simp [neD, eqOk, flatD, eqd]
theorem mul_l {i j : Int} (h : -(2 ^ 64) < i ∧ i < 2 ^ 64) : mulD (.int i) (.int j) = some (.int (i * j)) := by
  show (if CMulD i j then some (D.int (i * j)) else none) = _
  rw [if_pos (.inl (.inl h))]
theorem mul_r {i j : Int} (h : -(2 ^ 64) < j ∧ j < 2 ^ 64) : mulD (.int i) (.int j) = some (.int (i * j)) := by
  show (if CMulD i j then some (D.int (i * j)) else none) = _
  rw [if_pos (.inl (.inr h))]
theorem log2_lt {n k : Nat} (h : n < 2 ^ k) (hk : 0 < k) : n.log2 < k := by
  by_cases h0 : n = 0
  · subst h0; simpa using hk
  · exact (Nat.log2_lt h0).mpr h
theorem mul_w {i j : Int} (h1 : i.natAbs < 2 ^ 100000) (h2 : j.natAbs < 2 ^ 100000) : mulD (.int i) (.int j) = some (.int (i * j)) := by
  show (if CMulD i j then some (D.int (i * j)) else none) = _
  have a := log2_lt h1 (by decide)
  have b := log2_lt h2 (by decide)
  rw [if_pos (.inr (show i.natAbs.log2 + j.natAbs.log2 < 1000000 by omega))]
theorem div_s {i j : Int} (h : 0 < j ∧ j < 2 ^ 64) : divD (.int i) (.int j) = some (.int (i / j)) := by
  show (if CDivW i j then some (D.int (i / j)) else none) = _
  have a : j.natAbs.log2 < 64 := log2_lt (by omega) (by decide)
  rw [if_pos ⟨h.1, by omega⟩]
theorem div_w {i j : Int} (h : 0 < j) (h2 : j.natAbs < 2 ^ 8000) : divD (.int i) (.int j) = some (.int (i / j)) := by
  show (if CDivW i j then some (D.int (i / j)) else none) = _
  have a := log2_lt h2 (by decide)
  rw [if_pos ⟨h, by omega⟩]
theorem mod_p {i j : Int} (h : 0 < j) : modD (.int i) (.int j) = some (.int (i % j)) := by
  show (if 0 < j then some (D.int (i % j)) else none) = _
  rw [if_pos h]
theorem ix_t {xs : List D} {i : Int} (h : 0 ≤ i ∧ i < xs.length) : ixD (.tup xs) (.int i) = some (xs.getD i.toNat .non) := by
  show atI xs i = _
  unfold atI ixN
  rw [if_pos h.1, if_pos h.2]
  show xs[i.toNat]? = _
  rw [List.getElem?_eq_getElem (by omega), List.getD_eq_getElem?_getD, List.getElem?_eq_getElem (by omega)]
  rfl
theorem ix_l {xs : List D} {i : Int} (h : 0 ≤ i ∧ i < xs.length) : ixD (.lst xs) (.int i) = some (xs.getD i.toNat .non) := by
  show atI xs i = _
  unfold atI ixN
  rw [if_pos h.1, if_pos h.2]
  show xs[i.toNat]? = _
  rw [List.getElem?_eq_getElem (by omega), List.getD_eq_getElem?_getD, List.getElem?_eq_getElem (by omega)]
  rfl
theorem ix_tm {xs : List D} {i m : Int} (h : 0 < m ∧ m ≤ xs.length) : ixD (.tup xs) (.int (i % m)) = some (xs.getD (i % m).toNat .non) := ix_t ⟨Int.emod_nonneg _ (by omega), Int.lt_of_lt_of_le (Int.emod_lt_of_pos _ h.1) h.2⟩
theorem ix_lm {xs : List D} {i m : Int} (h : 0 < m ∧ m ≤ xs.length) : ixD (.lst xs) (.int (i % m)) = some (xs.getD (i % m).toNat .non) := ix_l ⟨Int.emod_nonneg _ (by omega), Int.lt_of_lt_of_le (Int.emod_lt_of_pos _ h.1) h.2⟩
theorem ix_t0 {a : D} {r : List D} : ixD (.tup (a :: r)) (.int 0) = some a := by
  show atI (a :: r) 0 = _
  unfold atI ixN
  rw [if_pos (by decide), if_pos (by simp only [List.length_cons]; omega)]
  rfl
theorem ix_t1 {a b : D} {r : List D} : ixD (.tup (a :: b :: r)) (.int 1) = some b := by
  show atI (a :: b :: r) 1 = _
  unfold atI ixN
  rw [if_pos (by decide), if_pos (by simp only [List.length_cons]; omega)]
  rfl
theorem ix_t2 {a b c : D} {r : List D} : ixD (.tup (a :: b :: c :: r)) (.int 2) = some c := by
  show atI (a :: b :: c :: r) 2 = _
  unfold atI ixN
  rw [if_pos (by decide), if_pos (by simp only [List.length_cons]; omega)]
  rfl
theorem ix_t3 {a b c d : D} {r : List D} : ixD (.tup (a :: b :: c :: d :: r)) (.int 3) = some d := by
  show atI (a :: b :: c :: d :: r) 3 = _
  unfold atI ixN
  rw [if_pos (by decide), if_pos (by simp only [List.length_cons]; omega)]
  rfl
theorem ix_t4 {a b c d e : D} {r : List D} : ixD (.tup (a :: b :: c :: d :: e :: r)) (.int 4) = some e := by
  show atI (a :: b :: c :: d :: e :: r) 4 = _
  unfold atI ixN
  rw [if_pos (by decide), if_pos (by simp only [List.length_cons]; omega)]
  rfl
theorem ix_t5 {a b c d e f : D} {r : List D} : ixD (.tup (a :: b :: c :: d :: e :: f :: r)) (.int 5) = some f := by
  show atI (a :: b :: c :: d :: e :: f :: r) 5 = _
  unfold atI ixN
  rw [if_pos (by decide), if_pos (by simp only [List.length_cons]; omega)]
  rfl
theorem ix_t6 {a b c d e f g : D} {r : List D} : ixD (.tup (a :: b :: c :: d :: e :: f :: g :: r)) (.int 6) = some g := by
  show atI (a :: b :: c :: d :: e :: f :: g :: r) 6 = _
  unfold atI ixN
  rw [if_pos (by decide), if_pos (by simp only [List.length_cons]; omega)]
  rfl
theorem ix_t7 {a b c d e f g h : D} {r : List D} : ixD (.tup (a :: b :: c :: d :: e :: f :: g :: h :: r)) (.int 7) = some h := by
  show atI (a :: b :: c :: d :: e :: f :: g :: h :: r) 7 = _
  unfold atI ixN
  rw [if_pos (by decide), if_pos (by simp only [List.length_cons]; omega)]
  rfl
theorem ix_l0 {a : D} {r : List D} : ixD (.lst (a :: r)) (.int 0) = some a := by
  show atI (a :: r) 0 = _
  unfold atI ixN
  rw [if_pos (by decide), if_pos (by simp only [List.length_cons]; omega)]
  rfl
theorem ix_l1 {a b : D} {r : List D} : ixD (.lst (a :: b :: r)) (.int 1) = some b := by
  show atI (a :: b :: r) 1 = _
  unfold atI ixN
  rw [if_pos (by decide), if_pos (by simp only [List.length_cons]; omega)]
  rfl
theorem ix_l2 {a b c : D} {r : List D} : ixD (.lst (a :: b :: c :: r)) (.int 2) = some c := by
  show atI (a :: b :: c :: r) 2 = _
  unfold atI ixN
  rw [if_pos (by decide), if_pos (by simp only [List.length_cons]; omega)]
  rfl
theorem ix_l3 {a b c d : D} {r : List D} : ixD (.lst (a :: b :: c :: d :: r)) (.int 3) = some d := by
  show atI (a :: b :: c :: d :: r) 3 = _
  unfold atI ixN
  rw [if_pos (by decide), if_pos (by simp only [List.length_cons]; omega)]
  rfl
theorem ix_l4 {a b c d e : D} {r : List D} : ixD (.lst (a :: b :: c :: d :: e :: r)) (.int 4) = some e := by
  show atI (a :: b :: c :: d :: e :: r) 4 = _
  unfold atI ixN
  rw [if_pos (by decide), if_pos (by simp only [List.length_cons]; omega)]
  rfl
theorem ix_l5 {a b c d e f : D} {r : List D} : ixD (.lst (a :: b :: c :: d :: e :: f :: r)) (.int 5) = some f := by
  show atI (a :: b :: c :: d :: e :: f :: r) 5 = _
  unfold atI ixN
  rw [if_pos (by decide), if_pos (by simp only [List.length_cons]; omega)]
  rfl
theorem ix_l6 {a b c d e f g : D} {r : List D} : ixD (.lst (a :: b :: c :: d :: e :: f :: g :: r)) (.int 6) = some g := by
  show atI (a :: b :: c :: d :: e :: f :: g :: r) 6 = _
  unfold atI ixN
  rw [if_pos (by decide), if_pos (by simp only [List.length_cons]; omega)]
  rfl
theorem ix_l7 {a b c d e f g h : D} {r : List D} : ixD (.lst (a :: b :: c :: d :: e :: f :: g :: h :: r)) (.int 7) = some h := by
  show atI (a :: b :: c :: d :: e :: f :: g :: h :: r) 7 = _
  unfold atI ixN
  rw [if_pos (by decide), if_pos (by simp only [List.length_cons]; omega)]
  rfl
theorem len_t {xs : List D} : lenD [.tup xs] = some (.int xs.length) := rfl
theorem len_l {xs : List D} : lenD [.lst xs] = some (.int xs.length) := rfl
theorem len_a {xs : List Int} : lenD [.arr xs] = some (.int xs.length) := rfl
theorem abs_i {i : Int} : absD [.int i] = some (.int (if i < 0 then -i else i)) := rfl
theorem max_ii {i j : Int} : maxD [.int i, .int j] = some (.int (if j > i then j else i)) := rfl
theorem min_ii {i j : Int} : minD [.int i, .int j] = some (.int (if j < i then j else i)) := rfl
theorem int_i {i : Int} : intD [.int i] = some (.int i) := rfl
theorem int_b {b : Bool} : intD [.bl b] = some (.int (if b then 1 else 0)) := rfl
theorem int_t : intD [.bl true] = some (.int 1) := rfl
theorem int_f : intD [.bl false] = some (.int 0) := rfl
theorem str_i {i : Int} (h : i.natAbs < 2 ^ 1900) : strD [.int i] = some (.str (toString i)) := by
  show (if i.natAbs.log2 < 1920 then some (D.str (toString i)) else none) = _
  have a := log2_lt h (by decide)
  rw [if_pos (by omega)]
theorem len_s {x : Str} (h : x.length ≤ 1000000) : lenD [.str x] = some (.int x.length) := by
  show (if x.length ≤ sizeLine then some (D.int x.length) else none) = _
  rw [if_pos (by rw [sizeLine_eq]; omega)]
end
end DN
namespace DN
open PySem PySem.Spec PyProof.Rows L2
instance : Decidable (CPow i j) := by unfold CPow; infer_instance
end DN
namespace DN
open PySem PySem.Spec PyProof.Rows L2
open LamX (Tabs ExtN)

/-! ### methods of texts -/
section
variable {X : Cx} {T : List (Addr × Str)} {W : WX}
end
/-! evaluating -/
end DN
namespace DN
open PySem PySem.Spec PyProof.Rows L2
open LamX (Tabs ExtN CodeO GivesTo tLam LamS TabB lamCx lamEnv)

/-! ### list.count, flat items -/
section
variable {X : Cx}
def rCountF (K : PySem.W.Frag) : V → List V → Hp → VK → Prop := fun x xs H Q => ∃ (a : Addr) (ys : List V) (y : V), x = V.ref a ∧ xs = [y] ∧ SqL K H a ys ∧ flatV y = true ∧ ys.all flatV = true ∧ Q (.int ((ys.countP fun z => eqV z y : Nat) : Int)) H
theorem countU {y : V} : ∀ {ys : List V} {us : List Value}, Vals ys us → ys.all flatV = true → us.countP (eqU y) = ys.countP fun z => eqV z y
  | _, _, .nil, _ => rfl
  | z :: ys, u :: us, .cons r t, f => by
    rw [List.all_cons, Bool.and_eq_true] at f
    rw [List.countP_cons, List.countP_cons, countU t f.2, eqU_of r f.1]
theorem mt_countF : MtR X "list.count" (rCountF X.K) := by
  intro pins s σ H x xs v us Q I rx rxs h
  obtain ⟨a, ys, y, rfl, rfl, hs, fy, fys, q⟩ := h
  cases rx
  obtain ⟨u, rfl, ru⟩ := rxs.one
  obtain ⟨its, rv, ⟨⟨cls, dd, data, sl⟩, n, ho, hc, hdn, hd⟩, hlen⟩ := I.list hs
  simp only at hc hd
  subst hc hd
  refine call_meets PySem.F.slot_list_count ⟨_, ho, rfl⟩ PySem.F.entry_list_count (PySem.F.args_list_count_2 _ _)
    (SeqAt.list_countAt a its.toArray n dd sl u (eqU y)) ⟨ho, fun u' hu' => mem_eqAt ru fy rv fys u' (by simpa using hu'), ?_⟩
  have ec : its.toArray.toList.countP (eqU y) = ys.countP fun z => eqV z y := countU rv fys
  rw [ec]
  exact ⟨.int _, H, I.kept fun _ _ z => z, ⟨_, rfl⟩, q⟩
end

/-! ### told: what an own error is told as -/
def kindIx (n : Str) : Option Int :=
  if n = "TooGreat" then some 0 else if n = "NoText" then some 1 else if n = "NoDeed" then some 2 else if n = "NoKey" then some 3 else if n = "NoRoom" then some 4 else none
def toldR : Res D → Res D
  | .ok d => .ok (.tup [.str "told", d])
  | .ex n => (match kindIx n with
    | some k => .ok (.tup [.str "refused", .int k])
    | none => .bad)
  | .bad => .bad
def toldD (f : Rho → Res D) : Rho → Res D := fun ρ => toldR (f ρ)
def five : List Str := ["TooGreat", "NoText", "NoDeed", "NoKey", "NoRoom"]
/-- what is known of the five classes -/
structure ExK (K : PySem.W.Frag) (n : Str) : Prop where
  c : ExcC K (He.ga K n)
  m : PySem.W.exmOne K (.ref (He.ga K n)) (.ref (He.ga K "PileError")) = some true
  v : PySem.W.kitOne K (.ref (He.ga K n)) (.type "ValueError") = some true
  k : ∀ m ∈ five, PySem.W.kitOne K (.ref (He.ga K n)) (.ref (He.ga K m)) = some (decide (n = m))
def exKB (K : PySem.W.Frag) (n : Str) : Bool :=
  He.eqO (PySem.W.findIn K (.ref (He.ga K n)) "__getattribute__") (some (some (.builtin "BaseException.__getattribute__"))) &&
  (He.eqO (PySem.W.findIn K (.ref (He.ga K n)) "__getattr__") (some none) &&
  (decide (PySem.W.subIn K (.ref (He.ga K n)) (.type "BaseException") = some true) &&
  (PySem.W.hasDictIn K (He.ga K n) &&
  (He.eqO (PySem.W.findIn K (.ref (He.ga K n)) "__class__") (some (some (.builtin "object.__class__"))) &&
  (He.eqO (PySem.W.specialIn K (.builtin "object.__class__") "__get__") (some (some (.builtin "getset_descriptor.__get__"))) &&
  (decide (PySem.W.takesIn K (.builtin "object.__class__") = some true) &&
  (decide (PySem.W.mroIn K (He.ga K n) (.type "object") = some true) &&
  (decide (PySem.W.exmOne K (.ref (He.ga K n)) (.ref (He.ga K "PileError")) = some true) &&
  (decide (PySem.W.kitOne K (.ref (He.ga K n)) (.type "ValueError") = some true) &&
  five.all fun m => decide (PySem.W.kitOne K (.ref (He.ga K n)) (.ref (He.ga K m)) = some (decide (n = m))))))))))))
def toldB (K : PySem.W.Frag) : Bool := five.all fun n => exKB K n
theorem exKB_ok {K : PySem.W.Frag} {n : Str} (h : exKB K n = true) : ExK K n := by
  unfold exKB at h
  simp only [Bool.and_eq_true] at h
  obtain ⟨h1, h2, h3, h4, h5, h6, h7, h8, h9, h10, h11⟩ := h
  exact ⟨⟨He.eqO_ok h1, He.eqO_ok h2, of_decide_eq_true h3, h4, He.eqO_ok h5, He.eqO_ok h6, of_decide_eq_true h7, of_decide_eq_true h8⟩, of_decide_eq_true h9, of_decide_eq_true h10, fun m hm => of_decide_eq_true (List.all_eq_true.mp h11 m hm)⟩
theorem toldB_ok {K : PySem.W.Frag} (h : toldB K = true) : ∀ n ∈ five, ExK K n := fun n hn => exKB_ok (List.all_eq_true.mp h n hn)
theorem kindIx_mem {n : Str} {k : Int} (h : kindIx n = some k) : n ∈ five := by
  unfold kindIx at h
  unfold five
  split at h
  · rename_i e; subst e; simp
  · split at h
    · rename_i e; subst e; simp
    · split at h
      · rename_i e; subst e; simp
      · split at h
        · rename_i e; subst e; simp
        · split at h
          · rename_i e; subst e; simp
          · cases h
/-- what told's module must have -/
structure ToldC (K : PySem.W.Frag) (mg : Str → Option Value) : Prop where
  ex : ∀ n ∈ five, ExK K n
  g : ∀ n ∈ five, mg n = some (.ref (He.ga K n))
  p : mg "PileError" = some (.ref (He.ga K "PileError"))
  i : mg "isinstance" = none
  v : mg "ValueError" = none
/-- told's names -/
structure ToldS (sg : Scope) : Prop where
  l : ∀ n ∈ (["deed", "found", "e", "kinds"] : List Str), sg.names.lookup n = some .local
  g : ∀ n ∈ five, sg.names.lookup n = some .globalImplicit
  gp : sg.names.lookup ("PileError" : Str) = some .globalImplicit
  gi : sg.names.lookup ("isinstance" : Str) = some .globalImplicit
  gv : sg.names.lookup ("ValueError" : Str) = some .globalImplicit
theorem bt_ValueError : bootBuiltins "ValueError" = some (.type "ValueError") := by decide +kernel
def TTd (K : PySem.W.Frag) (T : List (Addr × Str)) : (XK → Hp → VK → Prop) → Hp → VK → Prop := fun tl H Q =>
  ∃ F r, Fz F H ∧ (∀ E H' F' Q', Nx T F H F' H' → aft (Rp K) K T (WofE E) [] F' H' Q' r → tl E H' Q') ∧ aft (Rp K) K T (fun _ _ _ _ => False) [] F H Q (toldR r)
theorem takes_len {X : Cx} {W : WX} (t : Takes X W) : Takes X (fun c d σ H => σ.length = X.N.length → W c d σ H) := fun u s' ⟨a, B, sI, pins, σ, H, cls, d, e, I, nb, up, sky, na, os, ag, w⟩ =>
  t u s' ⟨a, B, sI, pins, σ, H, cls, d, e, I, nb, up, sky, na, os, ag, w I.len⟩

section
variable {X : Cx} {T : List (Addr × Str)}
/-- the suite's reading, of an error of the class at D -/
def isR (K : PySem.W.Frag) (D a : Addr) (n : Str) : TE := tCB (rIsE K D a) (tCons (tVar 2) (tCons (tC (.ref (He.ga K n))) tNil))
def isV (K : PySem.W.Frag) (D a : Addr) : TE := tCB (rIsE K D a) (tCons (tVar 2) (tCons (tC (.ty "ValueError")) tNil))
def RS (K : PySem.W.Frag) (a D : Addr) : TS :=
  tSeq (tAsg (tLst (tCons (isR K D a "TooGreat") (tCons (isR K D a "NoText") (tCons (isR K D a "NoDeed") (tCons (isR K D a "NoKey") tNil))))) (gName 3))
  (tSeq (tDrop (tBM K "list" rAppend (tVar 3) (tCons (isR K D a "NoRoom") tNil)))
  (tSeq (tAsg (tTup (tCons (tC (.str "refused")) (tCons (tUn (rU fun i => .int (-i)) (tC (.int 1))) tNil))) (gName 1))
  (tIfS (tAnd (tB (isV K D a)) (tB (tEqI (tBM K "list" (rCountF K) (tVar 3) (tCons (tC (.bl true)) tNil)) (tC (.int 1))))) (tAsg (tTup (tCons (tC (.str "refused")) (tCons (tBM K "list" (rIndex K) (tVar 3) (tCons (tC (.bl true)) tNil)) tNil))) (gName 1)) tNext)))
theorem isR_run {K : PySem.W.Frag} {n m : Str} {a : Addr} {σ : L2.St} {H : Hp} {Q : VK} (E : ExK K n) (hm : m ∈ five) (h2 : σ[2]? = some (some (.ref a))) (hq : Q (.bl (decide (n = m))) H) : isR K (He.ga K n) a m σ H Q :=
  ⟨.ref a, h2, .ref (He.ga K m), .ref (He.ga K m), _, rfl, fun u r => r, E.k m hm, hq⟩
theorem isV_run {K : PySem.W.Frag} {n : Str} {a : Addr} {σ : L2.St} {H : Hp} {Q : VK} (E : ExK K n) (h2 : σ[2]? = some (some (.ref a))) (hq : Q (.bl true) H) : isV K (He.ga K n) a σ H Q :=
  ⟨.ref a, h2, .ty "ValueError", .type "ValueError", _, rfl, fun u r => r, E.v, hq⟩
theorem suite_run {K : PySem.W.Frag} {n : Str} {a : Addr} {σ : L2.St} {F H : Hp} {D : Ends} {b0 b1 b2 b3 b4 : Bool} {j : Nat} (E : ExK K n) (z : Fz F H) (hl : σ.length = 4) (h2 : σ[2]? = some (some (.ref a)))
    (e0 : decide (n = "TooGreat") = b0) (e1 : decide (n = "NoText") = b1) (e2 : decide (n = "NoDeed") = b2) (e3 : decide (n = "NoKey") = b3) (e4 : decide (n = "NoRoom") = b4)
    (hc : ([V.bl b0, .bl b1, .bl b2, .bl b3, .bl b4].countP fun z => eqV z (.bl true)) = 1) (hj : [V.bl b0, .bl b1, .bl b2, .bl b3, .bl b4][j]? = some (.bl true)) (hno : ∀ (m : Nat) (z' : V), m < j → [V.bl b0, .bl b1, .bl b2, .bl b3, .bl b4][m]? = some z' → eqV z' (.bl true) = false)
    (hk : ∀ σ' p F' H', Nx T F H F' H' → F' p = some (.tup [.str "refused", .int (j : Nat)]) → σ'.length = 4 → σ'[1]? = some (some (.ref p)) → D.nx σ' H') : RS K a (He.ga K n) D σ H := by
  have sl := sizeLine_eq
  refine isR_run E (by unfold five; simp) h2 (isR_run E (by unfold five; simp) h2 (isR_run E (by unfold five; simp) h2 (isR_run E (by unfold five; simp) h2 ⟨by simp; omega, fun p1 hp1 => ?_⟩)))
  rw [e0, e1, e2, e3]
  have g3 : (σ.set 3 (some (V.ref p1)))[3]? = some (some (.ref p1)) := by rw [List.getElem?_set]; simp [hl]
  have g2 : (σ.set 3 (some (V.ref p1)))[2]? = some (some (.ref a)) := by rw [List.getElem?_set]; simpa using h2
  refine ⟨.ref p1, g3, .inl ⟨rfl, _, .inl (.inl upd_same)⟩, isR_run E (by unfold five; simp) g2 ⟨p1, _, _, rfl, rfl, upd_same, by simp; omega, ?_⟩⟩
  rw [e4, upd_upd]
  have n1 : Nx T F H F (upd H p1 (.lst [V.bl b0, .bl b1, .bl b2, .bl b3, .bl b4])) := Nx.lay z hp1
  refine ⟨1, rfl, by simp; omega, fun p2 hp2 => ?_⟩
  have np : p1 ≠ p2 := fun e => by rw [← e, upd_same] at hp2; cases hp2
  have n2 := n1.trans (Nx.lay (T := T) (o := .tup [V.str "refused", V.int (-1)]) n1.z hp2)
  have k1 : (upd (upd H p1 (.lst [V.bl b0, .bl b1, .bl b2, .bl b3, .bl b4])) p2 (.tup [V.str "refused", V.int (-1)])) p1 = some (.lst [V.bl b0, .bl b1, .bl b2, .bl b3, .bl b4]) := by rw [upd_ne np, upd_same]
  have f3 : ((σ.set 3 (some (V.ref p1))).set 1 (some (V.ref p2)))[3]? = some (some (.ref p1)) := by rw [List.getElem?_set]; simpa using g3
  have f2 : ((σ.set 3 (some (V.ref p1))).set 1 (some (V.ref p2)))[2]? = some (some (.ref a)) := by rw [List.getElem?_set]; simpa using g2
  refine isV_run E f2 ⟨true, rfl, ?_⟩
  refine ⟨.ref p1, f3, .inl ⟨rfl, _, .inl (.inl k1)⟩, p1, _, .bl true, rfl, rfl, .inl (.inl k1), rfl, rfl, ?_⟩
  rw [hc]
  refine ⟨_, _, rfl, rfl, true, rfl, ?_⟩
  refine ⟨.ref p1, f3, .inl ⟨rfl, _, .inl (.inl k1)⟩, p1, _, .bl true, j, .bl true, rfl, rfl, .inl (.inl k1), rfl, rfl, hj, rfl, hno, ⟨by simp; omega, fun p3 hp3 => ?_⟩⟩
  have n3 := n2.trans (Nx.push (T := T) (o := .tup [V.str "refused", V.int (j : Nat)]) n2.z hp3 fun ps z => by cases z)
  refine hk _ p3 _ _ n3 upd_same (by simp [hl]) ?_
  rw [List.getElem?_set]
  simp [hl]
theorem told_gives {sg : Scope} {x q : Str} {g : Addr} {cdg : Value} {q1 q2 q3 q4 q5 q6 q7 q8 q9 q10 q11 q12 q13 q14 q15 q16 q17 q18 q19 q20 q21 q22 q23 q24 q25 q26 q27 q28 q29 q30 q31 q32 q33 q34 q35 q36 q37 q38 q39 q40 q41 q42 q43 q44 q45 q46 q47 q48 q49 q50 q51 q52 q53 q54 q55 q56 q57 q58 q59 q60 q61 q62 q63 q64 : Pos} (S : ToldS sg) (C : ToldC X.K X.mg) (h1 : (q26.endLine == q27.line) = true) (h2 : (q40.endLine == q41.line) = true) (h3 : (q42.endLine == q43.line) = true) :
    GivesTo X ["deed", "found", "e", "kinds"] x sg g cdg [.Try [(.Assign [(.Name "found" q1)] (.Tuple [(.Constant (.str "told") 0 q2), .Call (.Name "deed" q3) [] [] q4] 0 q5) q6)] [.ExceptHandler (some (.Name "PileError" q60)) (some "e") [(.Assign [(.Name "kinds" q7)] (.List [(.Call (.Name "isinstance" q8) [.Name "e" q9, .Name "TooGreat" q10] [] q11), (.Call (.Name "isinstance" q12) [.Name "e" q13, .Name "NoText" q14] [] q15), (.Call (.Name "isinstance" q16) [.Name "e" q17, .Name "NoDeed" q18] [] q19), (.Call (.Name "isinstance" q20) [.Name "e" q21, .Name "NoKey" q22] [] q23)] q24) q25), (.Expr (.Call (.Attribute (.Name "kinds" q28) "append" q26) [(.Call (.Name "isinstance" q29) [.Name "e" q30, .Name "NoRoom" q31] [] q32)] [] q27) q33), (.Assign [(.Name "found" q34)] (.Tuple [(.Constant (.str "refused") 0 q35), .UnaryOp .USub (.Constant (.int 1) 0 q36) q37] 0 q38) q39), (.If (.BoolOp .And [(.Call (.Name "isinstance" q44) [.Name "e" q45, .Name "ValueError" q46] [] q47), .Compare (.Call (.Attribute (.Name "kinds" q48) "count" q40) [.Constant (.bool true) 0 q49] [] q41) [.Eq] [.Constant (.int 1) 0 q50] q51] q52) [.Assign [(.Name "found" q53)] (.Tuple [(.Constant (.str "refused") 0 q54), .Call (.Attribute (.Name "kinds" q55) "index" q42) [.Constant (.bool true) 0 q56] [] q43] 0 q57) q58] [] q59)] q61] [] [] q62, .Return (some (.Name "found" q63)) q64] "deed" q (TTd X.K T) := by
  intro f c' s H Q tl act hc h
  obtain ⟨F, r, hz, htl, hq⟩ := h
  have vis : ∀ n ∈ (["deed", "found", "e", "kinds"] : List Str), Vis sg n := fun n hn => .inl (S.l n hn)
  have isE : ∀ (n : Str) (a : Addr) (oe : Obj) (D : Addr) (pn : List (Addr × Obj)) (p1 p2 p3 p4 : Pos), n ∈ five → ExcC X.K D → Zc (.ref D) none oe → (∃ vs, oe.data = .fields vs) → (n == ("__debug__" : Str)) = false →
      PE ((cxOf C8.CX0 X.prog X.w X.K X.mg X.base ["deed", "found", "e", "kinds"] x sg g cdg X.A X.stack s H C8.E0).nox.suite a ((a, oe) :: pn)) (.Call (.Name "isinstance" p1) [.Name "e" p2, .Name n p3] [] p4) (tCB (rIsE X.K D a) (tCons (tVar 2) (tCons (tC (.ref (He.ga X.K n))) tNil))) := fun n a oe D pn p1 p2 p3 p4 hn CC zc fl hdb =>
    pe_callB (call_isE CC zc fl) S.gi C.i bt_isinstance (pa_cons (pe_var (i := 2) rfl (vis "e" (by simp))) (pa_cons (pe_glob (v := .ref (He.ga X.K n)) (S.g n hn) (C.g n hn) rfl hdb) pa_nil))
  have isVE : ∀ (a : Addr) (oe : Obj) (D : Addr) (pn : List (Addr × Obj)) (p1 p2 p3 p4 : Pos), ExcC X.K D → Zc (.ref D) none oe → (∃ vs, oe.data = .fields vs) →
      PE ((cxOf C8.CX0 X.prog X.w X.K X.mg X.base ["deed", "found", "e", "kinds"] x sg g cdg X.A X.stack s H C8.E0).nox.suite a ((a, oe) :: pn)) (.Call (.Name "isinstance" p1) [.Name "e" p2, .Name "ValueError" p3] [] p4) (isV X.K D a) := fun a oe D pn p1 p2 p3 p4 CC zc fl =>
    pe_callB (call_isE CC zc fl) S.gi C.i bt_isinstance (pa_cons (pe_var (i := 2) rfl (vis "e" (by simp))) (pa_cons (pe_bltn (v := .ty "ValueError") S.gv C.v bt_ValueError rfl) pa_nil))
  have nd : (["deed", "found", "e", "kinds"] : List Str).Nodup := by decide +kernel
  have lf : sg.names.lookup ("found" : Str) = some .local := S.l "found" (by simp)
  have lk : sg.names.lookup ("kinds" : Str) = some .local := S.l "kinds" (by simp)
  have hs : ∀ (a : Addr) (oe : Obj) (D : Addr) (pn : List (Addr × Obj)), ExcC X.K D → Zc (.ref D) none oe → (∃ vs, oe.data = .fields vs) →
      PSs ((cxOf C8.CX0 X.prog X.w X.K X.mg X.base ["deed", "found", "e", "kinds"] x sg g cdg X.A X.stack s H C8.E0).nox.suite a ((a, oe) :: pn)) [(.Assign [(.Name "kinds" q7)] (.List [(.Call (.Name "isinstance" q8) [.Name "e" q9, .Name "TooGreat" q10] [] q11), (.Call (.Name "isinstance" q12) [.Name "e" q13, .Name "NoText" q14] [] q15), (.Call (.Name "isinstance" q16) [.Name "e" q17, .Name "NoDeed" q18] [] q19), (.Call (.Name "isinstance" q20) [.Name "e" q21, .Name "NoKey" q22] [] q23)] q24) q25), (.Expr (.Call (.Attribute (.Name "kinds" q28) "append" q26) [(.Call (.Name "isinstance" q29) [.Name "e" q30, .Name "NoRoom" q31] [] q32)] [] q27) q33), (.Assign [(.Name "found" q34)] (.Tuple [(.Constant (.str "refused") 0 q35), .UnaryOp .USub (.Constant (.int 1) 0 q36) q37] 0 q38) q39), (.If (.BoolOp .And [(.Call (.Name "isinstance" q44) [.Name "e" q45, .Name "ValueError" q46] [] q47), .Compare (.Call (.Attribute (.Name "kinds" q48) "count" q40) [.Constant (.bool true) 0 q49] [] q41) [.Eq] [.Constant (.int 1) 0 q50] q51] q52) [.Assign [(.Name "found" q53)] (.Tuple [(.Constant (.str "refused") 0 q54), .Call (.Attribute (.Name "kinds" q55) "index" q42) [.Constant (.bool true) 0 q56] [] q43] 0 q57) q58] [] q59)] (RS X.K a D) := fun a oe D pn CC zc fl =>
    pss_cons (ps_asg (pe_lst (pa_cons (isE "TooGreat" a oe D pn _ _ _ _ (by unfold five; simp) CC zc fl (by decide)) (pa_cons (isE "NoText" a oe D pn _ _ _ _ (by unfold five; simp) CC zc fl (by decide)) (pa_cons (isE "NoDeed" a oe D pn _ _ _ _ (by unfold five; simp) CC zc fl (by decide)) (pa_cons (isE "NoKey" a oe D pn _ _ _ _ (by unfold five; simp) CC zc fl (by decide)) pa_nil))))) (pg_name (i := 3) nd rfl (.inl lk) (.inr lk)))
    (pss_cons (ps_expr (pe_bm PySem.F.plainAttrs_list PySem.F.slot_list_append PySem.F.type_list_append mt_append (pe_var (i := 3) rfl (.inl lk)) (pa_cons (isE "NoRoom" a oe D pn _ _ _ _ (by unfold five; simp) CC zc fl (by decide)) pa_nil) rfl rfl h1))
    (pss_cons (ps_asg (pe_tup (pa_cons pe_str (pa_cons (pe_un un_neg pe_int) pa_nil))) (pg_name (i := 1) nd rfl (.inl lf) (.inr lf)))
    (pss_one (ps_if (PW.pt (pw_and (pt_val (isVE a oe D pn _ _ _ _ CC zc fl)) (pw_and1 (pt_cmp (pc_eqI (pe_bm PySem.F.plainAttrs_list PySem.F.slot_list_count PySem.F.type_list_count mt_countF (pe_var (i := 3) rfl (.inl lk)) (pa_cons pe_bl pa_nil) rfl rfl h2) pe_int)))))
      (pss_one (ps_asg (pe_tup (pa_cons pe_str (pa_cons (pe_bm PySem.F.plainAttrs_list PySem.F.slot_list_index PySem.F.type_list_index mt_index (pe_var (i := 3) rfl (.inl lk)) (pa_cons pe_bl pa_nil) rfl rfl h3) pa_nil))) (pg_name (i := 1) nd rfl (.inl lf) (.inr lf)))) pss_nil))))
  refine ⟨_, pss_cons (ps_try_as (X := (cxOf C8.CX0 X.prog X.w X.K X.mg X.base ["deed", "found", "e", "kinds"] x sg g cdg X.A X.stack s H C8.E0).nox) (c := .ref (He.ga X.K "PileError")) (i := 2)
      (tb := fun W D σ H => ∃ Ech : XK, (∀ cls d σ' H', Ech cls d H' → σ'.length = 4 → W cls d σ' H') ∧ σ[0]? = some (some (.ref f)) ∧ H c' = some (CodeO c' q) ∧ tl Ech H fun v H1 => ([V.str "told", v] : List V).length ≤ sizeLine ∧ ∀ p, H1 p = none → D.nx (σ.set 1 (some (.ref p))) (upd H1 p (.tup [.str "told", v])))
      (ts := fun a cls d D σ H => ∃ C, cls = .ref C ∧ d = none ∧ ExcC X.K C ∧ RS X.K a C D σ H)
      (Wout := fun _ _ _ _ => False) rfl rfl nd rfl (S.l "e" (by simp)) ⟨S.gp, by decide, .inl C.p⟩ LamX.takes0 (fun W pn xe tk _ => ?_) (fun a oe cls d pn zc fl => ?_)) (pss_one (ps_ret (pe_var (i := 1) rfl (.inl lf)))), ?_⟩
  · refine ⟨fun pins s' σ H' D I h' => ?_⟩
    obtain ⟨Ech, hW, e1, e2, e3⟩ := h'
    have hp := act (fun c d σ H => σ.length = 4 → W c d σ H) pn xe Ech q3 q4 (takes_len tk) hW
    exact (pss_one (ps_asg (pe_tup (pa_cons pe_str (pa_cons hp pa_nil))) (pg_name (i := 1) nd rfl (.inl lf) (.inr lf)))).run pins s' σ H' D I ⟨e1, e2, e3⟩
  · refine ⟨fun pins s' σ H' D I h' => ?_⟩
    obtain ⟨CC, rfl, rfl, ce, h'⟩ := h'
    exact (hs a oe CC pn ce zc fl).run pins s' σ H' D I h'
  · have sl := sizeLine_eq
    refine ⟨fun cls d H' => ∃ n k F', cls = .ref (He.ga X.K n) ∧ d = none ∧ kindIx n = some k ∧ Nx T F H F' H' ∧ ∀ v F'' H'', Nx T F H F'' H'' → Rp X.K F'' v (.tup [.str "refused", .int k]) → Q v H'', ?_, rfl, hc, ?_⟩
    · intro cls d σ' H' ⟨n, k, F', ec, ed, ek, nx, hQ⟩ hl
      subst ec ed
      have ek' := C.ex n (kindIx_mem ek)
      refine ⟨true, ek'.m, fun _ a ha => ⟨_, rfl, rfl, ek'.c, ?_⟩, fun z => by cases z⟩
      have fin : ∀ (j : Nat) (σ2 : L2.St) (p : Addr) (F2 H2 : Hp), k = (j : Int) → Nx T F' H' F2 H2 → F2 p = some (.tup [.str "refused", .int (j : Nat)]) → σ2.length = 4 → σ2[1]? = some (some (.ref p)) → tRet (tVar 1) { nx := fun _ H' => Q .non H', rt := Q } (σ2.set 2 none) H2 := fun j σ2 p F2 H2 e n2 fp l2 h1 => by
        refine ⟨.ref p, ?_, hQ _ F2 H2 (nx.trans n2) ?_⟩
        · rw [List.getElem?_set]; simpa using h1
        · rw [e]
          exact .tup (.inl (.inl fp)) (.cons (.str _) (.cons (.int _) .nil))
      have l2 : (σ'.set 2 (some (V.ref a))).length = 4 := by rw [List.length_set]; exact hl
      have g2 : (σ'.set 2 (some (V.ref a)))[2]? = some (some (.ref a)) := by rw [List.getElem?_set]; simp [hl]
      have hno : ∀ (l : List V) (j : Nat), (l.take j).all (fun z => !eqV z (.bl true)) = true → ∀ (m : Nat) (z' : V), m < j → l[m]? = some z' → eqV z' (.bl true) = false := fun l j ha m z' hm he => by
        have := List.all_eq_true.mp ha z' (List.mem_of_getElem? (i := m) (by rw [List.getElem?_take, if_pos hm]; exact he))
        simpa using this
      unfold kindIx at ek
      split at ek
      · rename_i e; subst e; cases ek
        exact suite_run (T := T) (j := 0) ek' nx.z l2 g2 (b0 := true) (b1 := false) (b2 := false) (b3 := false) (b4 := false) (by decide +kernel) (by decide +kernel) (by decide +kernel) (by decide +kernel) (by decide +kernel) rfl rfl (hno _ _ rfl) fun σ2 p F2 H2 => fin 0 σ2 p F2 H2 rfl
      · split at ek
        · rename_i e; subst e; cases ek
          exact suite_run (T := T) (j := 1) ek' nx.z l2 g2 (b0 := false) (b1 := true) (b2 := false) (b3 := false) (b4 := false) (by decide +kernel) (by decide +kernel) (by decide +kernel) (by decide +kernel) (by decide +kernel) rfl rfl (hno _ _ rfl) fun σ2 p F2 H2 => fin 1 σ2 p F2 H2 rfl
        · split at ek
          · rename_i e; subst e; cases ek
            exact suite_run (T := T) (j := 2) ek' nx.z l2 g2 (b0 := false) (b1 := false) (b2 := true) (b3 := false) (b4 := false) (by decide +kernel) (by decide +kernel) (by decide +kernel) (by decide +kernel) (by decide +kernel) rfl rfl (hno _ _ rfl) fun σ2 p F2 H2 => fin 2 σ2 p F2 H2 rfl
          · split at ek
            · rename_i e; subst e; cases ek
              exact suite_run (T := T) (j := 3) ek' nx.z l2 g2 (b0 := false) (b1 := false) (b2 := false) (b3 := true) (b4 := false) (by decide +kernel) (by decide +kernel) (by decide +kernel) (by decide +kernel) (by decide +kernel) rfl rfl (hno _ _ rfl) fun σ2 p F2 H2 => fin 3 σ2 p F2 H2 rfl
            · split at ek
              · rename_i e; subst e; cases ek
                exact suite_run (T := T) (j := 4) ek' nx.z l2 g2 (b0 := false) (b1 := false) (b2 := false) (b3 := false) (b4 := true) (by decide +kernel) (by decide +kernel) (by decide +kernel) (by decide +kernel) (by decide +kernel) rfl rfl (hno _ _ rfl) fun σ2 p F2 H2 => fin 4 σ2 p F2 H2 rfl
              · cases ek
    · refine htl _ H F _ (Nx.refl hz) ?_
      cases r with
      | ok d =>
        intro v F1 H1 n1 rv
        refine ⟨by simp; omega, fun p hp => ⟨.ref p, rfl, ?_⟩⟩
        have n2 := n1.trans (Nx.push (T := T) (o := .tup [V.str "told", v]) n1.z hp fun ps z => by cases z)
        exact hq (.ref p) _ _ n2 (.tup (.inl (.inl upd_same)) (.cons (.str _) (.cons (rv.mono (Nx.push (T := T) n1.z hp fun ps z => by cases z).f) .nil)))
      | ex n =>
        intro F1 H1 n1
        cases e : kindIx n with
        | none =>
          have hq : aft (Rp X.K) X.K T (fun _ _ _ _ => False) [] F H Q (match kindIx n with
            | some k => .ok (.tup [.str "refused", .int k])
            | none => .bad) := hq
          rw [e] at hq
          exact hq.elim
        | some k =>
          have hq : aft (Rp X.K) X.K T (fun _ _ _ _ => False) [] F H Q (match kindIx n with
            | some k => .ok (.tup [.str "refused", .int k])
            | none => .bad) := hq
          rw [e] at hq
          exact ⟨n, k, F1, rfl, rfl, e, n1, hq⟩
      | bad => exact hq.elim
end
end DN
namespace DN
open PySem PySem.Spec PyProof.Rows L2
open LamX (Tabs ExtN CodeO GivesTo tLam LamS TabB lamCx lamEnv)

section
variable {X : Cx} {T : List (Addr × Str)} {W : WX}
theorem nx_tabs {F H H1 : Hp} (z : Fz F H) (e : ExtN H H1) (t : Tabs T H1) : Nx T F H F H1 :=
  ⟨Sub.refl F, ⟨fun a o h => e a o (z.sub a o h) fun ps q => z.nt a ps (by rw [h, q]), z.nt⟩, e, fun a o h => .inl h, fun _ => t⟩
theorem e_told {pg : Arguments} {bg : List Stmt} {sg : Scope} {fd : FuncData} {c P : Addr} {k : Nat} {params : Arguments} {body : Expr} {scope : Scope} {f : Rho → Res D} {p lpos pos : Pos} {q : Str}
    (Fd : FunD X.K "_law_told" "_law_told" pg bg sg [] [] (He.ga X.K "_law_told") fd) (hm : X.mg "_law_told" = some (.ref (He.ga X.K "_law_told"))) (hbn : L2.Binds X.K fd ["deed"] []) (Sg : FnScope ["deed", "found", "e", "kinds"] ["deed"] sg)
    (hG : ∀ cdg, GivesTo X ["deed", "found", "e", "kinds"] "_law_told" sg (He.ga X.K "_law_told") cdg bg "deed" (X.env.qual ++ "<lambda>") (TTd X.K T))
    (TB : TabB X.base X.mg c P) (hcode : X.env.code = .ref c) (hq : X.env.qual ++ "<lambda>" = q) (hmT : (P, q) ∈ T) (hu : ∀ p ∈ T, p.1 = P → p.2 = q) (hg : Gl X "_law_told") (hr : Room (k + 2) X.A) (L : LamX.lamSB X.env.scope scope = true)
    (hbody : ∀ (A : Around) (outer : List Env) (s : Shared) (H : Hp) (E : XK) (f' c' : Addr), Room k (A.deeper (lamEnv X scope s.heap.objs.size f' c')) → DE (lamCx X A outer s H E scope f' c') T (WofE E) body f)
    (hdef : defaultsOf params X.env = ([], []) := by rfl)
    (hbind : ∀ (q : Str) (cl : List (Str × Addr)) (pm cv ctv : Value), bindArgs (PySem.W.kla_fn "<lambda>" q params body scope cl pm cv ctv) ⟨[], []⟩ = pure [] := by intros; rfl) :
    DE X T W (.Call (.Name "_law_told" p) [.Lambda params body scope lpos] [] pos) (toldD f) := by
  subst hq
  obtain ⟨oc, od, dV, kV, doc, pm, an, cdv, ct, osl, rfl, lk, hcd, hD, hK⟩ := Fd.ex
  refine (LamX.pe_lamcall (k := k) (t := fun E => tE X.K T (WofE E) f) hg hm Fd.kp lk hcd hbn Sg rfl (Sg.par "deed" (by simp) |>.elim .inl fun z => .inr (.inl z)) (hG cdv) TB hcode hmT hu hr (LamX.lamS_by L) hdef hbind (fun A outer s H E f' c' hr' => hbody A outer s H E f' c' hr')).to fun σ H Q h => ?_
  obtain ⟨ρ, F, a, h⟩ := h
  refine ⟨a.t, fun H1 e1 t1 => ?_⟩
  have n := nx_tabs a.z e1 t1
  have h := aft.mono n h
  refine ⟨F, f ρ, n.z, fun E H' F' Q' n2 h2 => ⟨ρ, F', (a.nx n).nx n2, ?_⟩, ?_⟩
  · cases e : f ρ with
    | ok d => rw [e] at h2; exact h2
    | ex m => rw [e] at h2; exact h2
    | bad => rw [e] at h2; exact h2
  · unfold toldD at h
    cases e : toldR (f ρ) with
    | ok d => rw [e] at h; exact h
    | bad => rw [e] at h; exact h
    | ex m =>
      exfalso
      unfold toldR at e
      split at e
      · cases e
      · split at e <;> cases e
      · cases e
end
theorem told_c {K : PySem.W.Frag} {mg : Str → Option Value} (h : ∀ n ∈ five, ExK K n) (g0 : mg "TooGreat" = some (.ref (He.ga K "TooGreat"))) (g1 : mg "NoText" = some (.ref (He.ga K "NoText"))) (g2 : mg "NoDeed" = some (.ref (He.ga K "NoDeed"))) (g3 : mg "NoKey" = some (.ref (He.ga K "NoKey"))) (g4 : mg "NoRoom" = some (.ref (He.ga K "NoRoom")))
    (p : mg "PileError" = some (.ref (He.ga K "PileError"))) (i : mg "isinstance" = none) (v : mg "ValueError" = none) : ToldC K mg := ⟨h, fun n hn => by
  unfold five at hn
  simp only [List.mem_cons, List.not_mem_nil, or_false] at hn
  rcases hn with rfl | rfl | rfl | rfl | rfl <;> assumption, p, i, v⟩
theorem exc_n {K : PySem.W.Frag} {h : Heap} {mg : Str → Option Value} {x : Str} (X : K.In h) (G : h.Ns mainGlobals mg) (c : (He.Fa.glo x).ok K = true) (e : (He.Fa.exc x).ok K = true) : ExcN K mg x := by
  obtain ⟨h1, h2, h3, h4⟩ := He.exc_ok e
  exact ⟨h1, h2, h3, h4, He.glo_ok X G c⟩
end DN
namespace DN
open PySem PySem.Spec PyProof.Rows L2
open LamX (Tabs ExtN)
section
variable {X : Cx} {T : List (Addr × Str)} {W : WX}
end
end DN
namespace DN
open PySem PySem.Spec PyProof.Rows L2
open LamX (Tabs ExtN)

/-! ### a module's dict of defs, text keys -/
theorem dicW_full {K : PySem.W.Frag} {w : World} {a : Addr} {ks : List Str} (h : He.dicW K a = some (He.keysIn w.params ks)) : ∃ es n, KDict K w a es n ∧ es.toList.map He.keyOf = He.keysIn w.params ks := by
  obtain ⟨es, n, D⟩ := He.dicW_ok h
  refine ⟨es, n, D, ?_⟩
  unfold He.dicW at h
  rw [D.at_] at h
  simp only [D.low] at h
  exact Option.some.inj h
theorem keys_miss {P : Params} {z : Str} : ∀ {l : List DictEntry} {ks : List Str}, l.map He.keyOf = He.keysIn P ks → z ∉ ks → l.find? (·.key.isStr z) = none ∧ l.any (·.refKey) = false
  | [], _, _, _ => ⟨rfl, rfl⟩
  | e :: r, [], h, _ => by cases h
  | e :: r, k :: ks, h, hz => by
    have h1 : He.keyOf e :: r.map He.keyOf = some (k, PyData.keyHash P k) :: He.keysIn P ks := h
    injection h1 with h2 h3
    obtain ⟨i1, i2⟩ := keys_miss h3 (fun q => hz (List.mem_cons_of_mem _ q))
    have hk : ∃ t, e.key = .str k t := by
      unfold He.keyOf at h2
      split at h2
      · rename_i x t q
        obtain ⟨h5, _⟩ := Prod.mk.inj (Option.some.inj h2)
        exact ⟨t, by rw [q, h5]⟩
      · cases h2
    obtain ⟨t, hk⟩ := hk
    have n1 : e.key.isStr z = false := by
      rw [hk]
      show (k == z) = false
      exact beq_eq_false_iff_ne.mpr fun q => hz (by rw [q]; exact List.mem_cons_self)
    have n2 : e.refKey = false := by unfold DictEntry.refKey; rw [hk]
    refine ⟨?_, ?_⟩
    · rw [List.find?_cons, n1]; exact i1
    · rw [List.any_cons, n2, i2]; rfl
/-- the module's dict x: text keys, defs -/
structure DicF (w : World) (K : PySem.W.Frag) (mg : Str → Option Value) (x : Str) (kvs : List (Str × Str)) : Prop where
  kd : ∃ es n, KDict K w (He.ga K x) es n ∧ es.toList.map He.keyOf = He.keysIn w.params (kvs.map Prod.fst)
  vals : ∀ q ∈ kvs, ∃ u, PySem.W.nsIn K (He.ga K x) q.1 = some (some u) ∧ RelV (.ref (He.ga K q.2)) u
  g : mg x = some (.ref (He.ga K x))
def tabF (kvs : List (Str × Str)) (f : Rho → Res D) : Rho → Res D := fun ρ => (f ρ).bind fun d => match d with
  | .str z => (match kvs.lookup z with
    | some n => .ok (.fn n)
    | none => .bad)
  | _ => .bad
theorem DicF.ns {w : World} {K : PySem.W.Frag} {mg : Str → Option Value} {x : Str} {kvs : List (Str × Str)} (D : DicF w K mg x kvs) (z : Str) : ∃ r, PySem.W.nsIn K (He.ga K x) z = some r ∧ r.isSome = (kvs.map Prod.fst).contains z := by
  by_cases h : z ∈ kvs.map Prod.fst
  · obtain ⟨q, hq, rfl⟩ := List.mem_map.mp h
    obtain ⟨u, h1, _⟩ := D.vals q hq
    exact ⟨some u, h1, by rw [List.contains_iff_mem.mpr h]; rfl⟩
  · obtain ⟨es, n, kd, hk⟩ := D.kd
    obtain ⟨h1, h2⟩ := keys_miss hk h
    refine ⟨none, ?_, ?_⟩
    · unfold PySem.W.nsIn
      rw [kd.at_]
      simp only [h1, h2]
      rfl
    · have : (kvs.map Prod.fst).contains z = false := by
        rw [Bool.eq_false_iff]
        exact fun q => h (List.contains_iff_mem.mp q)
      rw [this]; rfl
theorem dic_f {w : World} {K : PySem.W.Frag} {h : Heap} {mg : Str → Option Value} {x : Str} {kvs : List (Str × Str)} (X : K.In h) (G : h.Ns mainGlobals mg) (d : He.dicW K (He.ga K x) = some (He.keysIn w.params (kvs.map Prod.fst))) (v : He.valsB K (He.ga K x) (kvs.map fun q => (q.1, He.Dv.glo q.2)) = true) (g : (He.Fa.glo x).ok K = true) : DicF w K mg x kvs :=
  ⟨dicW_full d, fun q hq => He.valsB_ok v (q := (q.1, He.Dv.glo q.2)) (List.mem_map.mpr ⟨q, hq, rfl⟩), He.glo_ok X G g⟩
theorem tab_eq {fa : List He.Fa} {fn : List He.DefD} {ts : List He.Tab} {w : World} {K : PySem.W.Frag} (c : He.SaysT fa fn ts w K) (i : Nat) {t : He.Tab} (h : ts[i]? = some t) : He.dicW K (t.1 K) = some (He.keysIn w.params t.2) := by
  have e : ts.map (fun t => He.dicW K (t.1 K)) = ts.map fun t => some (He.keysIn w.params t.2) := congrArg (fun z : He.AlT => z.2) c
  have e2 : (ts.map fun t => He.dicW K (t.1 K))[i]? = (ts.map fun t => some (He.keysIn w.params t.2))[i]? := by rw [e]
  rw [List.getElem?_map, List.getElem?_map, h] at e2
  exact Option.some.inj e2
section
variable {X : Cx} {T : List (Addr × Str)} {W : WX} {F0 H0 : Hp}
theorem e_tabF {x : Str} {kvs : List (Str × Str)} {e : Expr} {f : Rho → Res D} {p pos : Pos} (Dd : DicF X.w X.K X.mg x kvs) (hg : Gl X x) (he : DE X T W e f) (hs : PlainIx e := by exact fun _ _ => rfl) (hd : (x == ("__debug__" : Str)) = false := by decide) :
    DE X T W (.Subscript (.Name x p) e pos) (tabF kvs f) :=
  (pe_ix ix_kdict (pe_glob (v := .ref (He.ga X.K x)) hg Dd.g rfl hd) he hs).to fun σ H Q ⟨ρ, F, a, h⟩ => by
    refine ⟨ρ, F, a, (aft.bind (R := Rp X.K) h).imp fun d _ v F1 H1 _ _ q => ?_⟩
    obtain ⟨b, F2, _, n, rv, q⟩ := q
    cases rv with
    | str z =>
      have q : aft (Rp X.K) X.K T W σ F2 H1 Q (match kvs.lookup z with
        | some n => .ok (.fn n)
        | none => .bad) := q
      cases e : kvs.lookup z with
      | none => rw [e] at q; exact q.elim
      | some m =>
        rw [e] at q
        obtain ⟨u, u1, u2⟩ := Dd.vals (z, m) (PySem.mem_of_lookup e)
        obtain ⟨es, k, kd, _⟩ := Dd.kd
        exact ⟨_, z, .ref (He.ga X.K m), rfl, rfl, ⟨es, k, u, kd.at_, kd.lit, u1, u2⟩, q _ F2 H1 (Nx.refl n.z) (.fn m)⟩
    | _ => exact q.elim
/-! ### a call of a name that holds a def -/
def callF (i : Nat) (disp : Str → Option (List D → Res D)) (f : Rho → Res (List D)) : Rho → Res D := fun ρ => match ρ[i]? with
  | some (.z (.fn n)) => (match disp n with
    | some g => (f ρ).bind g
    | none => .bad)
  | _ => .bad
theorem e_callF {k i : Nat} {x : Str} {E : XK} {disp : Str → Option (List D → Res D)} {e : Expr} {es : List Expr} {p pos : Pos} {f : Rho → Res (List D)}
    (O : ∀ n g, disp n = some g → ∃ den m j, j ≤ k ∧ OkD X.prog X.w X.K X.mg X.base T j n m den ∧ ∀ ds, g ds = if ds.length = m then den ds else .bad) (hr : Room k X.A) (tk : Takes X (WofE E)) (hN : X.N[i]? = some x) (hv : Vis X.env.scope x) (ha : DA X T (WofE E) (e :: es) f)
    (hdb : (x == ("__debug__" : Str)) = false := by decide) (hcd : (x == ("__classdict__" : Str)) = false := by decide) (he : starEach (e :: es) X.env = (false, eval e X.env) :: starEach es X.env := by rfl) (hpl : (backTo pos (starEach es X.env)).any (·.1) = false := by rfl) :
    DE X T (WofE E) (.Call (.Name x p) (e :: es) [] pos) (callF i disp f) := by
  refine ⟨fun pins s σ H Q I h => ?_⟩
  obtain ⟨ρ, F, a, h⟩ := h
  unfold callF at h
  cases e1 : ρ[i]? with
  | none => rw [e1] at h; exact h.elim
  | some en =>
    rw [e1] at h
    cases en with
    | u => exact h.elim
    | o d => exact h.elim
    | z d =>
      cases d with
      | fn n =>
        have h : aft (Rp X.K) X.K T (WofE E) σ F H Q (match disp n with
          | some g => (f ρ).bind g
          | none => .bad) := h
        obtain ⟨v, h1, h2⟩ := a.r.z i _ e1
        cases h2
        cases e2 : disp n with
        | none => rw [e2] at h; exact h.elim
        | some g =>
          rw [e2] at h
          have h : aft (Rp X.K) X.K T (WofE E) σ F H Q ((f ρ).bind g) := h
          obtain ⟨den, m, j, hj, Ok, hdisp⟩ := O n g e2
          obtain ⟨fd, ps, G, b⟩ := Ok.ex
          refine (pe_callL (i := i) (E := E) (dvs := []) (ds := []) G (hr.mono hj) hN hv Ok.kp b .nil (passes_call tk fun _ _ _ _ q => q) ha hdb hcd he hpl).run pins s σ H Q I ⟨h1, ρ, F, a, (aft.bind (R := RpAll X.K) h).imp fun ds _ vs F1 H1 _ _ q => ?_⟩
          obtain ⟨ds', F2, _, nx, rs, q⟩ := q
          rw [List.append_nil]
          rw [hdisp] at q
          split at q
          · rename_i hl
            refine ⟨F2, ds', nx.z, nx.tab a.t, rs, hl, ?_⟩
            cases e : den ds' with
            | ok d => rw [e] at q; exact q
            | ex m => rw [e] at q; exact q
            | bad => rw [e] at q; exact q.elim
          · exact q.elim
      | _ => exact h.elim
/-! ### try with two handlers -/
end
end DN
namespace DN
open PySem PySem.Spec PyProof.Rows L2
open LamX (Tabs ExtN)

theorem lt1 {a c : Nat} (h : a + 64 < c) : a + 1 < c := by omega
section
variable {X : Cx} {T : List (Addr × Str)} {W : WX} {F0 H0 : Hp}
/-! ### a display of text keys that is used at once -/
structure DP (X : Cx) (T : List (Addr × Str)) (W : WX) (pos : Pos) (keys : List (Option Expr)) (values : List Expr) (ks : List Str) (f : Rho → Res (List D)) : Prop where
  ex : ∃ trs, PPs X pos keys values trs ∧ ∀ σ H (Q : List (V × V) → Hp → Prop), tA X.K T W f σ H (fun vs H' => Q ((ks.zip vs).map fun q => (V.str q.1, q.2)) H') → tPairs trs σ H Q
  len : keys.length = ks.length
  some : keys.all (·.isSome) = true
  vlen : keys.length = values.length
theorem dp_nil {pos : Pos} : DP X T W pos [] [] [] anil := ⟨⟨[], pps_nil, fun σ H Q ⟨ρ, F, a, h⟩ => h [] F H (Nx.refl a.z) .nil⟩, rfl, rfl, rfl⟩
theorem dp_cons {pos p : Pos} {j : Nat} {k : Str} {v : Expr} {keys : List (Option Expr)} {values : List Expr} {ks : List Str} {f : Rho → Res D} {g : Rho → Res (List D)} (hv : DE X T W v f) (hr : DP X T W pos keys values ks g) :
    DP X T W pos (some (.Constant (.str k) j p) :: keys) (v :: values) (k :: ks) (acons f g) := by
  obtain ⟨trs, h1, h2⟩ := hr.ex
  refine ⟨⟨_, pps_cons pe_str hv h1, fun σ H Q ⟨ρ, F, a, h⟩ => ?_⟩, by rw [List.length_cons, List.length_cons, hr.len], by rw [List.all_cons, hr.some]; rfl, by rw [List.length_cons, List.length_cons, hr.vlen]⟩
  show tE X.K T W f σ H fun y H2 => tPairs trs σ H2 fun ps H3 => Q ((V.str k, y) :: ps) H3
  refine ⟨ρ, F, a, (aft.bind (R := Rp X.K) h).imp fun d _ v F1 H1 _ _ q => ?_⟩
  obtain ⟨b, F2, _, n, rv, q⟩ := q
  refine h2 σ H1 _ ⟨ρ, F2, a.nx n, (aft.bind (R := RpAll X.K) q).imp fun ds _ vs F3 H3 _ _ q => ?_⟩
  obtain ⟨ds', F4, _, n2, rs, q⟩ := q
  exact q.ok (Nx.refl n2.z) (.cons (rv.mono n2.f) rs)
theorem merge_new : ∀ (more acc : List (Key × V)), (∀ k ∈ more.map Prod.fst, k ∉ acc.map Prod.fst) → (more.map Prod.fst).Nodup → mergeK acc more = acc ++ more
  | [], acc, _, _ => by show acc = acc ++ []; rw [List.append_nil]
  | p :: r, acc, h, hn => by
    rw [List.map_cons, List.nodup_cons] at hn
    have e : putK acc p.1 p.2 = acc ++ [p] := by
      unfold putK
      rw [if_neg]
      intro z
      obtain ⟨q, hq, e⟩ := List.any_eq_true.mp z
      exact h p.1 List.mem_cons_self (by rw [← of_decide_eq_true e]; exact List.mem_map.mpr ⟨q, hq, rfl⟩)
    show mergeK (putK acc p.1 p.2) r = _
    rw [e, merge_new r (acc ++ [p]) (fun k hk hq => ?_) hn.2, List.append_assoc]
    · rfl
    · rw [List.map_append, List.mem_append] at hq
      rcases hq with hq | hq
      · exact h k (List.mem_cons_of_mem _ hk) hq
      · simp at hq
        rw [hq] at hk
        exact hn.1 hk
theorem zip_fst {α β : Type} : ∀ {a : List α} {b : List β}, a.length = b.length → (a.zip b).map Prod.fst = a
  | [], [], _ => rfl
  | x :: a, y :: b, h => by
    rw [List.zip_cons_cons, List.map_cons, zip_fst (by simpa using h)]
theorem val_look {K : PySem.W.Frag} {F : Hp} {z : Str} : ∀ {ks : List Str} {vs : List V} {ds : List D}, RpAll K F vs ds → ks.length = vs.length →
    ((∃ v d, valV (kvK ks vs) (Sum.inr z) = some v ∧ (ks.zip ds).lookup z = some d ∧ Rp K F v d) ∨ (valV (kvK ks vs) (Sum.inr z) = none ∧ (ks.zip ds).lookup z = none))
  | [], [], [], _, _ => .inr ⟨rfl, rfl⟩
  | k :: ks, v :: vs, d :: ds, .cons h t, hl => by
    by_cases e : k = z
    · subst e
      refine .inl ⟨v, d, valV_pos rfl, ?_, h⟩
      simp [List.lookup]
    · have e2 : (z == k) = false := beq_eq_false_iff_ne.mpr fun q => e q.symm
      have e3 : valV (kvK (k :: ks) (v :: vs)) (Sum.inr z) = valV (kvK ks vs) (Sum.inr z) := valV_neg (p := (Sum.inr k, v)) fun q => e (Sum.inr.inj q)
      have e4 : ((k :: ks).zip (d :: ds)).lookup z = (ks.zip ds).lookup z := by
        rw [List.zip_cons_cons, List.lookup_cons, e2]
      rw [e3, e4]
      exact val_look t (by simpa using hl)
theorem tabs_updD {T : List (Addr × Str)} {H : Hp} {p : Addr} {xs : List (Key × V)} {o : HO} (h : Tabs T H) (e : H p = some (.dK xs)) : Tabs T (upd H p o) := fun q hq => by
  obtain ⟨ps, h1, h2, h3⟩ := h q hq
  refine ⟨ps, ?_, h2, fun pos cv hc => ?_⟩
  · rw [upd_ne fun z => by rw [z, e] at h1; cases h1]; exact h1
  · obtain ⟨c, e1, e2⟩ := h3 pos cv hc
    refine ⟨c, e1, ?_⟩
    rw [upd_ne fun z => by rw [z, e] at e2; unfold LamX.CodeO at e2; cases e2]; exact e2
/-- a dict laid empty at p, filled behind the values -/
theorem nx_fill {F H F1 H1 : Hp} {p : Addr} {o : HO} (z : Fz F H) (hp : H p = none) (n1 : Nx T F (upd H p (.dK [])) F1 H1) : Nx T F H F1 (upd H1 p o) ∧ H1 p = some (.dK []) := by
  have fp : F p = none := by
    cases q : F p with
    | none => rfl
    | some u =>
      have := z.sub _ _ q
      rw [hp] at this; cases this
  have k1 : H1 p = some (.dK []) := n1.keep upd_same fun ps q => by cases q
  have f1 : F1 p = none := n1.out (a := p) (o := .dK []) upd_same (fun ps q => by cases q) fp
  refine ⟨⟨n1.f, ⟨fun x u e => ?_, n1.z.nt⟩, fun b u e nt => ?_, fun x u e => ?_, fun t => ?_⟩, k1⟩
  · rw [upd_ne fun q => by rw [q, f1] at e; cases e]
    exact n1.z.sub _ _ e
  · have hb : b ≠ p := ne_of_none e hp
    rw [upd_ne hb]
    exact n1.h b u (by rw [upd_ne hb]; exact e) nt
  · rcases n1.new x u e with h | h
    · exact .inl h
    · exact .inr fun o' e' => h o' (by rw [upd_ne (ne_of_none e' hp)]; exact e')
  · exact tabs_updD (n1.tab ((Nx.lay (T := T) z hp).tab t)) k1
end
end DN
namespace DN
open PySem PySem.Spec PyProof.Rows L2
open LamX (Tabs ExtN)

section
variable {X : Cx} {T : List (Addr × Str)} {W : WX} {F0 H0 : Hp}
/-! ### a display of text keys, its item taken at once -/
def dixD (ks : List Str) (f : Rho → Res (List D)) (fe : Rho → Res D) : Rho → Res D := fun ρ => (f ρ).bind fun ds => if ds.length = ks.length then (fe ρ).bind fun k => (match k with
  | .str z => ofO ((ks.zip ds).lookup z)
  | _ => .bad) else .bad
theorem e_dix {pos spos : Pos} {keys : List (Option Expr)} {values : List Expr} {ks : List Str} {f : Rho → Res (List D)} {e : Expr} {fe : Rho → Res D} (hu : X.A.units + 1 < cLine) (hd : DP X T W pos keys values ks f) (he : DE X T W e fe) (h0 : keys ≠ []) (h15 : ks.length ≤ 15) (hnd : ks.Nodup) (hs : NoSl e) :
    DE X T W (.Subscript (.Dict keys values pos) e spos) (dixD ks f fe) := by
  obtain ⟨trs, h1, ht⟩ := hd.ex
  refine (pe_dget hu (pe_disp h1 hd.some hd.vlen h0 (by rw [hd.len]; exact h15)) he hs).to fun σ H Q ⟨ρ, F, a, h⟩ => ?_
  intro p hp
  have n0 : Nx T F H F (upd H p (.dK [])) := Nx.lay a.z hp
  refine ht σ _ _ ⟨ρ, F, a.nx n0, ((aft.bind (R := RpAll X.K) (aft.mono n0 h))).imp fun ds _ vs F1' H1 _ _ q => ?_⟩
  obtain ⟨ds', F1, e', n1, rv, _⟩ := q
  obtain ⟨nf, k1⟩ := nx_fill (o := .dK (kvK ks vs)) a.z hp n1
  have h' := aft.mono nf h
  unfold dixD at h'
  rw [e'] at h'
  have h' : aft (Rp X.K) X.K T W σ F1 (upd H1 p (.dK (kvK ks vs))) Q (if ds'.length = ks.length then (fe ρ).bind fun k => (match k with
    | .str z => ofO ((ks.zip ds').lookup z)
    | _ => .bad) else .bad) := h'
  by_cases hl : ds'.length = ks.length
  · rw [if_pos hl] at h'
    have hlv : ks.length = vs.length := by rw [rv.length, hl]
    have hm : mergeK [] (kvK ks vs) = kvK ks vs := by
      rw [merge_new _ _ (fun k _ q => by cases q)]
      · rfl
      · unfold kvK
        rw [List.map_map]
        have e3 : (ks.zip vs).map (Prod.fst ∘ fun q => ((Sum.inr q.1 : Key), q.2)) = ks.map Sum.inr := by
          have : (Prod.fst ∘ fun q : Str × V => ((Sum.inr q.1 : Key), q.2)) = Sum.inr ∘ Prod.fst := rfl
          rw [this, ← List.map_map, zip_fst hlv]
        rw [e3]
        exact List.Pairwise.map _ (fun _ _ q z => q (Sum.inr.inj z)) hnd
    refine ⟨k1, kvK ks vs, ?_, ?_, ?_⟩
    · unfold kvK
      rw [List.map_map]
      rfl
    · unfold kvK
      rw [List.length_map, List.length_zip]
      omega
    · rw [hm]
      refine ⟨ρ, F1, a.nx nf, (aft.bind (R := Rp X.K) h').imp fun d _ y F2 H2 _ _ q => ?_⟩
      obtain ⟨k, F3, _, n3, ry, q⟩ := q
      have kp : H2 p = some (.dK (kvK ks vs)) := n3.keep upd_same fun ps z => by cases z
      cases ry with
      | str x =>
        have q : aft (Rp X.K) X.K T W σ F3 H2 Q (ofO ((ks.zip ds').lookup x)) := q
        rcases val_look (z := x) (RpAll.mono n3.f rv) hlv with ⟨v, d, w1, w2, w3⟩ | ⟨w1, w2⟩
        · rw [w2] at q
          exact ⟨p, v, rfl, .inl ⟨_, Sum.inr x, .inl kp, rfl, w1.symm⟩, q v F3 H2 (Nx.refl n3.z) w3⟩
        · rw [w2] at q
          exact q.elim
      | _ => exact q.elim
  · rw [if_neg hl] at h'
    exact h'.elim
end
/-! ### a module's dict of texts -/
structure DicS (w : World) (K : PySem.W.Frag) (mg : Str → Option Value) (x : Str) (kvs : List (Str × Str)) : Prop where
  kd : ∃ es n, KDict K w (He.ga K x) es n ∧ es.toList.map He.keyOf = He.keysIn w.params (kvs.map Prod.fst)
  vals : ∀ q ∈ kvs, ∃ u, PySem.W.nsIn K (He.ga K x) q.1 = some (some u) ∧ RelV (.str q.2) u
  g : mg x = some (.ref (He.ga K x))
theorem DicS.ns {w : World} {K : PySem.W.Frag} {mg : Str → Option Value} {x : Str} {kvs : List (Str × Str)} (D : DicS w K mg x kvs) (z : Str) : ∃ r, PySem.W.nsIn K (He.ga K x) z = some r ∧ r.isSome = (kvs.map Prod.fst).contains z := by
  by_cases h : z ∈ kvs.map Prod.fst
  · obtain ⟨q, hq, rfl⟩ := List.mem_map.mp h
    obtain ⟨u, h1, _⟩ := D.vals q hq
    exact ⟨some u, h1, by rw [List.contains_iff_mem.mpr h]; rfl⟩
  · obtain ⟨es, n, kd, hk⟩ := D.kd
    obtain ⟨h1, h2⟩ := keys_miss hk h
    refine ⟨none, ?_, ?_⟩
    · unfold PySem.W.nsIn
      rw [kd.at_]
      simp only [h1, h2]
      rfl
    · have : (kvs.map Prod.fst).contains z = false := by
        rw [Bool.eq_false_iff]
        exact fun q => h (List.contains_iff_mem.mp q)
      rw [this]; rfl
section
variable {X : Cx} {T : List (Addr × Str)} {W : WX} {F0 H0 : Hp}
/-! ### a def of which nothing is promised: the recursion's ground -/
theorem ok_bad {P : Program} {w : World} {K : PySem.W.Frag} {mg : Str → Option Value} {base : Heap} {T : List (Addr × Str)} {k : Nat} {x qual : Str} {params : Arguments} {body : List Stmt} {scope : Scope} {N ps : List Str} {n : Nat}
    (Fd : ∃ fd, FunD K x qual params body scope [] [] (He.ga K x) fd) (hm : mg x = some (.ref (He.ga K x))) (S : FnScope N ps scope) (hn : ps.length = n)
    (hb : ∀ fd, FunD K x qual params body scope [] [] (He.ga K x) fd → Binds K fd ps []) : OkD P w K mg base T (k + 1) x n (fun _ => .bad) := by
  obtain ⟨fd, Fd⟩ := Fd
  refine ⟨⟨fd, ps, Fd.ok S (fun vs H Q E h => ?_) fun cdv A outer s0 H vs Q E hr h => ?_, hb fd Fd⟩, Fd.kp, hm⟩
  · obtain ⟨F, ds, _, _, r, hl, _⟩ := h
    rw [r.length, hl, hn]
  · obtain ⟨F, ds, _, _, _, _, h⟩ := h
    exact h.elim
end
end DN
/-! lists of the frame's own: made, appended to, stored into, read, frozen -/
namespace DN
open PySem PySem.Spec PyProof.Rows L2
open LamX (Tabs ExtN)

def D.flat : D → Bool
  | .non => true
  | .bl _ => true
  | .int _ => true
  | .str _ => true
  | _ => false
def flatR : Res D → Res D
  | .ok d => if d.flat = true then .ok d else .bad
  | r => r
def frz (i : Nat) (ρ : Rho) : Rho := match ρ[i]? with
  | some (.o (.lst ds)) => ρ.set i (.z (.lst ds))
  | _ => ρ
def bor (i : Nat) (f : Rho → Res D) : Rho → Res D := fun ρ => flatR (f (frz i ρ))
def borQ (i : Nat) (f : Rho → Res Bool) : Rho → Res Bool := fun ρ => f (frz i ρ)
theorem Rp.flat {K : PySem.W.Frag} {F F' : Hp} {v : V} {d : D} (h : Rp K F v d) (e : d.flat = true) : Rp K F' v d := by
  cases h <;> first | exact .non | exact .bl _ | exact .int _ | exact .str _ | cases e
section
variable {K : PySem.W.Frag} {T : List (Addr × Str)} {W : WX} {F0 H0 F H : Hp} {σ : L2.St} {ρ : Rho}
theorem At.frz (a : At K T F H σ ρ) (i : Nat) : ∃ F1, At K T F1 H σ (frz i ρ) ∧ Sub F F1 ∧ (∀ F' H', Nx T F1 H F' H' → Nx T F H F H') ∧ (∀ F0 H0, Nx T F0 H0 F H → Ow H0 σ ρ → Nx T F0 H0 F1 H ∧ Ow H0 σ (frz i ρ)) := by
  have triv : ∃ F1, At K T F1 H σ ρ ∧ Sub F F1 ∧ (∀ F' H', Nx T F1 H F' H' → Nx T F H F H') ∧ (∀ F0 H0, Nx T F0 H0 F H → Ow H0 σ ρ → Nx T F0 H0 F1 H ∧ Ow H0 σ ρ) :=
    ⟨F, a, Sub.refl F, fun F' H' n => ⟨Sub.refl F, ⟨n.f.trans n.z.sub, a.z.nt⟩, n.h, fun _ _ h => .inl h, n.tab⟩, fun F0 H0 n o => ⟨n, o⟩⟩
  unfold DN.frz
  split
  · rename_i ds e
    obtain ⟨p, hs, hp, xs, hx, rx⟩ := a.r.o i _ e
    have sb : Sub F (upd F p (.lst xs)) := fun b o eb => by
      rw [upd_ne fun z => by rw [z, hp] at eb; cases eb]; exact eb
    have z1 : Fz (upd F p (.lst xs)) H := ⟨fun b o eb => by
      by_cases hb : b = p
      · subst hb; rw [upd_same] at eb; rw [← eb]; exact hx
      · rw [upd_ne hb] at eb; exact a.z.sub _ _ eb, fun b ps eb => by
      by_cases hb : b = p
      · subst hb; rw [upd_same] at eb; cases eb
      · rw [upd_ne hb] at eb; exact a.z.nt _ _ eb⟩
    have il : i < ρ.length := (List.getElem?_eq_some_iff.mp e).1
    refine ⟨upd F p (.lst xs), ⟨z1, a.t, ?_⟩, sb, fun F' H' n => ⟨Sub.refl F, ⟨sb.trans (n.f.trans n.z.sub), a.z.nt⟩, n.h, fun _ _ h => .inl h, n.tab⟩, fun F0 H0 n o => ⟨⟨n.f.trans sb, z1, n.h, fun b u eb => ?_, n.tab⟩, fun j d q h1 h2 => ?_⟩⟩
    · refine ⟨by rw [List.length_set]; exact a.r.len, fun j d hj => ?_, fun j d hj => ?_, fun j k d1 d2 q1 q2 hn h1 h2 h3 h4 => ?_⟩
      · rw [List.getElem?_set] at hj
        by_cases hij : i = j
        · subst hij
          rw [if_pos rfl, if_pos il] at hj
          cases hj
          exact ⟨_, hs, .lst upd_same (rx.mono sb)⟩
        · rw [if_neg hij] at hj
          obtain ⟨v, h1, h2⟩ := a.r.z j d hj
          exact ⟨v, h1, h2.mono sb⟩
      · rw [List.getElem?_set] at hj
        by_cases hij : i = j
        · subst hij
          rw [if_pos rfl, if_pos il] at hj
          cases hj
        · rw [if_neg hij] at hj
          obtain ⟨q, h1, h2, h3⟩ := a.r.o j d hj
          have hne : p ≠ q := a.r.ne i j _ _ p q hij e hj hs h1
          refine ⟨q, h1, by rw [upd_ne (Ne.symm hne)]; exact h2, ?_⟩
          cases d with
          | lst es => obtain ⟨ys, k1, k2⟩ := h3; exact ⟨ys, k1, k2.mono sb⟩
          | dK _ => exact h3
          | dT _ => exact h3
          | dic _ _ _ _ => obtain ⟨es, k1, k2⟩ := h3; exact ⟨es, k1, k2.mono sb⟩
          | ins _ _ _ => obtain ⟨dx, ws, k1, k2⟩ := h3; exact ⟨dx, ws, k1, k2.mono sb⟩
          | _ => exact h3.elim
      · rw [List.getElem?_set] at h1 h2
        have fj : i ≠ j := fun z => by rw [if_pos z] at h1; split at h1 <;> cases h1
        have fk : i ≠ k := fun z => by rw [if_pos z] at h2; split at h2 <;> cases h2
        rw [if_neg fj] at h1
        rw [if_neg fk] at h2
        exact a.r.ne j k d1 d2 q1 q2 hn h1 h2 h3 h4
    · by_cases hb : b = p
      · subst hb
        exact .inr fun o' e' => .inl (o i _ b e hs o' e')
      · rw [upd_ne hb] at eb; exact n.new _ _ eb
    · rw [List.getElem?_set] at h1
      by_cases hij : i = j
      · subst hij
        rw [if_pos rfl, if_pos il] at h1
        cases h1
      · rw [if_neg hij] at h1
        exact o j d q h1 h2
  · exact triv
end
section
variable {X : Cx} {T : List (Addr × Str)} {W : WX} {F0 H0 : Hp}
def sfrz (i : Nat) (s : Rho → SR) : Rho → SR := fun ρ => s (frz i ρ)
theorem s_frz {st : List Stmt} {s : Rho → SR} (i : Nat) (h : DSs X T W F0 H0 st s) : DSs X T W F0 H0 st (sfrz i s) := h.to fun Z σ H ⟨ρ, F, g, q⟩ => by
  obtain ⟨F1, a1, sb, _, fw⟩ := g.at_.frz i
  obtain ⟨n1, o1⟩ := fw F0 H0 g.nx g.ow
  exact ⟨DN.frz i ρ, F1, ⟨a1, n1, o1⟩, aftS.mono sb q⟩
end

/-! ### made -/
def aftO (K : PySem.W.Frag) (T : List (Addr × Str)) (W : WX) (σ : L2.St) (F H : Hp) (Q : V → Hp → Prop) : Res D → Prop
  | .ok (.lst ds) => ∀ p vs F' H', Nx T F H F' H' → F' p = none → H' p = some (.lst vs) → RpAll K F' vs ds → (∀ o, H p = some o → ∃ ps, o = .tbl ps) → Q (.ref p) H'
  | .ok _ => False
  | .ex n => ∀ F' H', Nx T F H F' H' → W (.ref (He.ga K n)) none σ H'
  | .bad => False
def tO (K : PySem.W.Frag) (T : List (Addr × Str)) (W : WX) (f : Rho → Res D) : TE := fun σ H Q => ∃ ρ F, At K T F H σ ρ ∧ aftO K T W σ F H Q (f ρ)
abbrev DOw (X : Cx) (T : List (Addr × Str)) (W : WX) (e : Expr) (f : Rho → Res D) : Prop := PE X e (tO X.K T W f)
def sown (f : Rho → Res D) (i : Nat) : Rho → SR := fun ρ => bindS (f ρ) ρ fun d => match d with
  | .lst ds => .nx (ρ.set i (.o (.lst ds)))
  | _ => .bad
section
variable {K : PySem.W.Frag} {T : List (Addr × Str)} {W : WX} {F0 H0 F H : Hp} {σ : L2.St} {ρ : Rho}
theorem frn {p : Addr} (z : Fz F H) (hp : H p = none) : F p = none := by
  cases q : F p with
  | none => rfl
  | some o => have := z.sub _ _ q; rw [hp] at this; cases this
theorem Rl.setO {i : Nat} {p : Addr} {vs : List V} {ds : List D} (r : Rl K F H σ ρ) (hp : F p = none) (hx : H p = some (.lst vs)) (rx : RpAll K F vs ds) (fr : ∀ (j : Nat) (d : D) (q : Addr), ρ[j]? = some (En.o d) → σ[j]? = some (some (V.ref q)) → q ≠ p) :
    Rl K F H (σ.set i (some (.ref p))) (ρ.set i (.o (.lst ds))) where
  len := by rw [List.length_set, List.length_set]; exact r.len
  z := fun j e hj => by
    rw [List.getElem?_set] at hj ⊢
    by_cases hij : i = j
    · subst hij
      rw [if_pos rfl] at hj
      split at hj <;> cases hj
    · rw [if_neg hij] at hj ⊢
      exact r.z j e hj
  o := fun j e hj => by
    rw [List.getElem?_set] at hj ⊢
    by_cases hij : i = j
    · subst hij
      rw [if_pos rfl] at hj ⊢
      by_cases hl : i < ρ.length
      · rw [if_pos hl] at hj
        rw [if_pos (by rw [r.len]; exact hl)]
        cases hj
        exact ⟨p, rfl, hp, vs, hx, rx⟩
      · rw [if_neg hl] at hj; cases hj
    · rw [if_neg hij] at hj ⊢
      exact r.o j e hj
  ne := fun j k a b q1 q2 hn h1 h2 h3 h4 => by
    rw [List.getElem?_set] at h1 h2 h3 h4
    by_cases fj : i = j
    · have fk : i ≠ k := fun z => hn (fj.symm.trans z)
      rw [if_neg fk] at h2 h4
      rw [if_pos fj] at h3
      have : q1 = p := by split at h3 <;> cases h3; rfl
      rw [this]
      exact Ne.symm (fr k _ q2 h2 h4)
    · rw [if_neg fj] at h1 h3
      by_cases fk : i = k
      · rw [if_pos fk] at h4
        have : q2 = p := by split at h4 <;> cases h4; rfl
        rw [this]
        exact fr j _ q1 h1 h3
      · rw [if_neg fk] at h2 h4
        exact r.ne j k a b q1 q2 hn h1 h2 h3 h4
theorem Ow.setO {i : Nat} {p : Addr} {d : D} (o : Ow H0 σ ρ) (hp : ∀ o, H0 p = some o → ∃ ps, o = .tbl ps) : Ow H0 (σ.set i (some (.ref p))) (ρ.set i (.o d)) := fun j e q h1 h2 => by
  rw [List.getElem?_set] at h1 h2
  by_cases hij : i = j
  · rw [if_pos hij] at h2
    have : q = p := by split at h2 <;> cases h2; rfl
    rw [this]; exact hp
  · rw [if_neg hij] at h1 h2
    exact o j e q h1 h2
theorem ntL' {vs : List V} : ∀ ps, HO.lst vs ≠ .tbl ps := fun ps z => by cases z
/-- an own list made at p, bound to slot i -/
theorem Sg.own {F1 H1 : Hp} {i : Nat} {p : Addr} {vs : List V} {ds : List D} (g : Sg K T F0 H0 F H σ ρ) (n : Nx T F H F1 H1) (hp : F1 p = none) (hx : H1 p = some (.lst vs)) (rx : RpAll K F1 vs ds) (fr : ∀ o, H p = some o → ∃ ps, o = .tbl ps) :
    Sg K T F0 H0 F1 H1 (σ.set i (some (.ref p))) (ρ.set i (.o (.lst ds))) := by
  have g1 := g.step n
  refine ⟨⟨g1.at_.z, g1.at_.t, g1.at_.r.setO hp hx rx fun j d q h1 h2 e => ?_⟩, g1.nx, g1.ow.setO fun o ho => ?_⟩
  · obtain ⟨q', k1, k2, k3⟩ := g.at_.r.o j d h1
    rw [h2] at k1
    cases k1
    obtain ⟨o, k4, k5⟩ := k3.solid
    rw [e] at k4
    obtain ⟨ps, k6⟩ := fr o k4
    exact k5 ps k6
  · by_cases q : ∃ ps, o = .tbl ps
    · exact q
    · exact fr o (g.nx.h p o ho fun ps z => q ⟨ps, z⟩)
/-- the own list at slot i is changed -/
theorem Sg.putO {i : Nat} {p : Addr} {d : D} {xs ys : List V} {es : List D} (g : Sg K T F0 H0 F H σ ρ) (hi : ρ[i]? = some (.o d)) (hs : σ[i]? = some (some (.ref p))) (hx : H p = some (.lst xs)) (ry : RpAll K F ys es) :
    Sg K T F0 H0 F (upd H p (.lst ys)) σ (ρ.set i (.o (.lst es))) := by
  have il : i < ρ.length := (List.getElem?_eq_some_iff.mp hi).1
  have hp : F p = none := by
    obtain ⟨q, h1, h2, h3⟩ := g.at_.r.o i d hi
    rw [hs] at h1; cases h1; exact h2
  have z1 : Fz F (upd H p (.lst ys)) := ⟨fun b o eb => by
    rw [upd_ne fun z => by rw [z, hp] at eb; cases eb]; exact g.at_.z.sub _ _ eb, g.at_.z.nt⟩
  refine ⟨⟨z1, tabs_upd g.at_.t hx, ?_⟩, ⟨g.nx.f, z1, fun b o eb no => ?_, g.nx.new, fun t => tabs_upd (g.nx.tab t) hx⟩, fun j e q h1 h2 => ?_⟩
  · refine ⟨by rw [List.length_set]; exact g.at_.r.len, fun j e hj => ?_, fun j e hj => ?_, fun j k a b q1 q2 hn h1 h2 h3 h4 => ?_⟩
    · rw [List.getElem?_set] at hj
      by_cases hij : i = j
      · rw [if_pos hij] at hj
        split at hj <;> cases hj
      · rw [if_neg hij] at hj
        exact g.at_.r.z j e hj
    · rw [List.getElem?_set] at hj
      by_cases hij : i = j
      · subst hij
        rw [if_pos rfl, if_pos il] at hj
        cases hj
        exact ⟨p, hs, hp, ys, upd_same, ry⟩
      · rw [if_neg hij] at hj
        obtain ⟨q, h1, h2, h3⟩ := g.at_.r.o j e hj
        have hne : p ≠ q := g.at_.r.ne i j _ _ p q hij hi hj hs h1
        refine ⟨q, h1, h2, ?_⟩
        cases e with
        | lst es => obtain ⟨zs, k1, k2⟩ := h3; exact ⟨zs, by rw [upd_ne (Ne.symm hne)]; exact k1, k2⟩
        | dK _ => show upd H p _ q = _; rw [upd_ne (Ne.symm hne)]; exact h3
        | dT _ => show upd H p _ q = _; rw [upd_ne (Ne.symm hne)]; exact h3
        | dic _ _ _ _ => obtain ⟨es, k1, k2⟩ := h3; exact ⟨es, by rw [upd_ne (Ne.symm hne)]; exact k1, k2⟩
        | ins _ _ _ => obtain ⟨dx, ws, k1, k2⟩ := h3; exact ⟨dx, ws, by rw [upd_ne (Ne.symm hne)]; exact k1, k2⟩
        | _ => exact h3.elim
    · have o1 : ∀ j e, (ρ.set i (.o (.lst es)))[j]? = some (En.o e) → ∃ e', ρ[j]? = some (En.o e') := fun j e h => by
        rw [List.getElem?_set] at h
        by_cases hij : i = j
        · subst hij; exact ⟨d, hi⟩
        · rw [if_neg hij] at h; exact ⟨e, h⟩
      obtain ⟨a', h1⟩ := o1 j a h1
      obtain ⟨b', h2⟩ := o1 k b h2
      exact g.at_.r.ne j k a' b' q1 q2 hn h1 h2 h3 h4
  · rw [upd_ne fun z => by
      subst z
      obtain ⟨ps, k⟩ := g.ow i d b hi hs o eb
      exact no ps k]
    exact g.nx.h _ _ eb no
  · rw [List.getElem?_set] at h1
    by_cases hij : i = j
    · subst hij
      exact g.ow i d q hi h2
    · rw [if_neg hij] at h1
      exact g.ow j e q h1 h2
end
section
variable {X : Cx} {T : List (Addr × Str)} {W : WX} {F0 H0 : Hp}
theorem sown_to {f : Rho → Res D} {i : Nat} {K : PySem.W.Frag} {Z : Ends} {σ : L2.St} {H : Hp} (h : tS K T W F0 H0 (sown f i) Z σ H) : tAsg (tO K T W f) (gName i) Z σ H := by
  obtain ⟨ρ, F, g, h⟩ := h
  refine ⟨ρ, F, g.at_, ?_⟩
  unfold sown at h
  cases e : f ρ with
  | ok d =>
    rw [e] at h
    cases d with
    | lst ds =>
      have h : ∀ σ' F' H', Sg K T F0 H0 F' H' σ' (ρ.set i (.o (.lst ds))) → Sub F F' → Z.nx σ' H' := h
      exact fun p vs F1 H1 n hp hx rx fr => h _ F1 H1 (g.own n hp hx rx fr) n.f
    | _ => exact h.elim
  | ex m => rw [e] at h; exact fun F' H' n => h σ F' H' (g.step n) n.f
  | bad => rw [e] at h; exact h.elim
theorem s_own {tg e : Expr} {pos : Pos} {f : Rho → Res D} {i : Nat} (he : DOw X T W e f) (hg : PG X tg (gName i)) (hs : swapsWithSole [tg] e pos.line X.env = pure false := by rfl) (hw : swappedStores [tg] e X.env = pure none := by rfl)
    (h1 : (assignEach [tg] X.env).map (·.2) = [assign tg X.env] := by rfl) : DS X T W F0 H0 (.Assign [tg] e pos) (sown f i) :=
  (ps_asg he hg hs hw h1).to fun Z σ H h => sown_to h
theorem back_tbl {H H2 : Hp} {p : Addr} (n : ExtN H H2) (fr : ∀ o, H2 p = some o → ∃ ps, o = .tbl ps) : ∀ o, H p = some o → ∃ ps, o = .tbl ps := fun o ho => by
  by_cases q : ∃ ps, o = .tbl ps
  · exact q
  · exact fr o (n p o ho fun ps z => q ⟨ps, z⟩)
theorem aftO.bind {K : PySem.W.Frag} {σ : L2.St} {F H : Hp} {α β : Type} {R : Hp → α → β → Prop} {Q : V → Hp → Prop} {r : Res β} {k : β → Res D} (h : aftO K T W σ F H Q (r.bind k)) :
    aft R K T W σ F H (fun a H1 => ∃ b F1, r = .ok b ∧ Nx T F H F1 H1 ∧ R F1 a b ∧ aftO K T W σ F1 H1 Q (k b)) r := by
  cases r with
  | ok b =>
    refine fun a F2 H2 n ra => ⟨b, F2, rfl, n, ra, ?_⟩
    have h : aftO K T W σ F H Q (k b) := h
    cases e : k b with
    | ok d =>
      rw [e] at h
      cases d with
      | lst ds => exact fun p vs F' H' n2 hp hx rx fr => h p vs F' H' (n.trans n2) hp hx rx (back_tbl n.h fr)
      | _ => exact h.elim
    | ex m => rw [e] at h; exact fun F' H' n2 => h F' H' (n.trans n2)
    | bad => rw [e] at h; exact h.elim
  | ex m => exact h
  | bad => exact h
theorem o_lst {es : List Expr} {pos : Pos} {f : Rho → Res (List D)} (h : DA X T W es f) : DOw X T W (.List es pos) (mkL f) :=
  (pe_lst h).to fun σ H Q ⟨ρ, F, a, h⟩ => by
    refine ⟨ρ, F, a, (aftO.bind (R := RpAll X.K) h).imp fun d _ v F1 H1 _ _ q => ?_⟩
    obtain ⟨ds, F2, _, n, rv, q⟩ := q
    have q : aftO X.K T W σ F2 H1 Q (if ds.length ≤ sizeLine then .ok (.lst ds) else .bad) := q
    split at q
    · rename_i hl
      exact ⟨by rw [rv.length]; exact hl, fun p hp => q p v F2 _ (Nx.lay n.z hp) (frn n.z hp) upd_same rv fun o ho => by rw [hp] at ho; cases ho⟩
    · exact q.elim
/-! ### appended, stored, read -/
/-- the own list at slot i, if there is one -/
theorem own_at {K : PySem.W.Frag} {F H : Hp} {σ : L2.St} {ρ : Rho} {i : Nat} {ds : List D} (r : Rl K F H σ ρ) (e : ρ[i]? = some (.o (.lst ds))) : ∃ p xs, σ[i]? = some (some (.ref p)) ∧ F p = none ∧ H p = some (.lst xs) ∧ RpAll K F xs ds := by
  obtain ⟨p, h1, h2, xs, h3, h4⟩ := r.o i _ e
  exact ⟨p, xs, h1, h2, h3, h4⟩
def ownR (i : Nat) (ρ : Rho) : Res (List D) := match ρ[i]? with
  | some (.o (.lst ds)) => .ok ds
  | _ => .bad
theorem ownR_ok {i : Nat} {ρ : Rho} {ds : List D} (h : ownR i ρ = .ok ds) : ρ[i]? = some (.o (.lst ds)) := by
  unfold ownR at h
  split at h
  · rename_i e; cases h; exact e
  · cases h
def sapp (i : Nat) (f : Rho → Res D) : Rho → SR := fun ρ => bindS (ownR i ρ) ρ fun ds => bindS (f ρ) ρ fun d => if ds.length < sizeLine then .nx (ρ.set i (.o (.lst (ds ++ [d])))) else .bad
theorem s_app {x : Str} {i : Nat} {e : Expr} {p apos cpos pos : Pos} {f : Rho → Res D} (hv : PE X (.Name x p) (tVar i)) (he : DE X T W e f) (hline : (apos.endLine == cpos.line) = true := by rfl)
    (hs : swapsWith (.Call (.Attribute (.Name x p) "append" apos) [e] [] cpos) none pos.line X.env = pure false := by rfl)
    (hbase : attributeBase (.Name x p) "append" X.env (eval (.Name x p) X.env) = eval (.Name x p) X.env := by rfl)
    (hfew : ((backTo cpos (starEach [e] X.env)).all (fun x => !x.1) && (backToKw cpos (keywordEach [] X.env)).all (fun x => x.1.isSome)
      && decide (([e]).length + ([] : List Keyword).length + (if ([] : List Keyword).isEmpty then 0 else 1) < 30)) = true := by rfl)
    (h5 : starEach [e] X.env = (false, eval e X.env) :: starEach [] X.env := by rfl) (hplain : (backTo cpos (starEach [] X.env)).any (·.1) = false := by rfl) :
    DS X T W F0 H0 (.Expr (.Call (.Attribute (.Name x p) "append" apos) [e] [] cpos) pos) (sapp i f) :=
  (ps_expr (pe_bm PySem.F.plainAttrs_list PySem.F.slot_list_append PySem.F.type_list_append mt_append hv (pa_cons he pa_nil h5) hbase hfew hline h5 hplain) hs).to fun Z σ H ⟨ρ, F, g, h⟩ => by
    unfold sapp at h
    cases e : ownR i ρ with
    | bad => rw [e] at h; exact h.elim
    | ex m =>
      exfalso
      unfold ownR at e
      split at e <;> cases e
    | ok ds =>
      rw [e] at h
      have e := ownR_ok e
      obtain ⟨p, xs, h1, h2, h3, h4⟩ := own_at g.at_.r e
      have h : aftS X.K T W F0 H0 F Z (bindS (f ρ) ρ fun d => if ds.length < sizeLine then .nx (ρ.set i (.o (.lst (ds ++ [d])))) else .bad) := h
      refine ⟨_, h1, .inl ⟨rfl, xs, SqL.of h3⟩, ρ, F, g.at_, (aftS.bind (R := Rp X.K) g h).imp fun d _ v F1 H1 _ _ q => ?_⟩
      obtain ⟨d', F2, _, n, g2, rv, q⟩ := q
      split at q
      · rename_i hl
        have k3 : H1 p = some (.lst xs) := n.keep h3 ntL'
        refine ⟨p, xs, v, rfl, rfl, k3, by rw [h4.length]; exact hl, ?_⟩
        exact q σ F2 _ (g2.putO e h1 k3 ((h4.mono n.f).append (.cons rv .nil))) (Sub.refl F2)
      · exact q.elim
theorem RpAll.set {K : PySem.W.Frag} {F : Hp} : ∀ {vs : List V} {ds : List D} (n : Nat) {v : V} {d : D}, RpAll K F vs ds → Rp K F v d → RpAll K F (vs.set n v) (ds.set n d)
  | _, _, _, _, _, .nil, _ => .nil
  | _, _, 0, _, _, .cons _ t, r => .cons r t
  | _, _, n + 1, _, _, .cons h t, r => .cons h (RpAll.set n t r)
def sput (i : Nat) (fk fe : Rho → Res D) : Rho → SR := fun ρ => bindS (fe ρ) ρ fun d => bindS (ownR i ρ) ρ fun ds => bindS (fk ρ) ρ fun k => match k with
  | .int j => (match ixN ds.length j with
    | some m => .nx (ρ.set i (.o (.lst (ds.set m d))))
    | none => .bad)
  | _ => .bad
def ixO (i : Nat) (fk : Rho → Res D) : Rho → Res D := fun ρ => (ownR i ρ).bind fun ds => (fk ρ).bind fun k => match k with
  | .int j => ofO (atI ds j)
  | _ => .bad
theorem e_ixO {x : Str} {i : Nat} {k : Expr} {p pos : Pos} {fk : Rho → Res D} (hv : PE X (.Name x p) (tVar i)) (hk : DE X T W k fk) (hs : PlainIx k := by exact fun _ _ => rfl) : DE X T W (.Subscript (.Name x p) k pos) (ixO i fk) :=
  (pe_ix ix_list hv hk hs).to fun σ H Q ⟨ρ, F, a, h⟩ => by
    unfold ixO at h
    cases e : ownR i ρ with
    | bad => rw [e] at h; exact h.elim
    | ex m =>
      exfalso
      unfold ownR at e
      split at e <;> cases e
    | ok ds =>
      rw [e] at h
      have e := ownR_ok e
      obtain ⟨p, xs, h1, h2, h3, h4⟩ := own_at a.r e
      refine ⟨_, h1, ρ, F, a, (aft.bind (R := Rp X.K) h).imp fun d _ w F3 H3 _ _ q => ?_⟩
      obtain ⟨k', F4, _, n2, rw', q⟩ := q
      cases rw' with
      | int j =>
        obtain ⟨z, hz, q⟩ := ofO_ok q
        obtain ⟨v, hv, rv⟩ := atI_get (h4.mono n2.f) hz
        have k3 : H3 p = some (.lst xs) := n2.keep h3 ntL'
        exact ⟨p, xs, j, v, rfl, rfl, SqL.of k3, hv, q v F4 H3 (Nx.refl n2.z) rv⟩
      | _ => exact q.elim
end
end DN
/-! comprehensions with any target; lists made so are own or frozen -/
namespace DN
open PySem PySem.Spec PyProof.Rows L2
open LamX (Tabs ExtN)

theorem At.wipe {K : PySem.W.Frag} {T : List (Addr × Str)} {F H : Hp} {σ : L2.St} {ρ : Rho} (a : At K T F H σ ρ) : ∀ vs : List Nat, At K T F H (L2.wipe σ vs) (wipeR ρ vs)
  | [] => a
  | v :: vs => ⟨a.z, a.t, (At.wipe a vs).r.wipe1⟩
/-! targets that touch the slots vs alone -/
section
variable {X : Cx} {T : List (Addr × Str)} {W : WX} {F0 H0 : Hp} {vs : List Nat}
end
section
variable {X : Cx} {T : List (Addr × Str)} {W : WX} {F0 H0 : Hp}
section
variable {j : Nat} {y : Str} {py : Pos} {elt tg iter : Expr} {ifs : List Expr} {scope : Scope} {own : List (Str × Nat)} {pos spos : Pos} {f : Rho → Res (List D)} {g : Tg} {t : Rho → Res Bool} {e : Rho → Res D}
end
end
end DN
/-! min, max and index of a list of ints; evaluation of own lists -/
namespace DN
open PySem PySem.Spec PyProof.Rows L2
open LamX (Tabs ExtN)

section
variable {X : Cx} {T : List (Addr × Str)} {W : WX} {F0 H0 : Hp}
end
/-! ### evaluation -/
section
variable {ρ : Rho}
def ownRR (r : Res D) (ρ : Rho) (i : Nat) : SR := bindS r ρ fun d => match d with
  | .lst ds => .nx (ρ.set i (.o (.lst ds)))
  | _ => .bad
theorem sown_def {f : Rho → Res D} {i : Nat} : sown f i ρ = ownRR (f ρ) ρ i := rfl
theorem ownRR_ok {ds : List D} {i : Nat} : ownRR (.ok (.lst ds)) ρ i = .nx (ρ.set i (.o (.lst ds))) := rfl
theorem frz_lst {ds : List D} {r : Rho} : frz 0 (.o (.lst ds) :: r) = .z (.lst ds) :: r := rfl
theorem frz_z {d : D} {r : Rho} : frz 0 (.z d :: r) = .z d :: r := rfl
theorem frz_u {r : Rho} : frz 0 (.u :: r) = .u :: r := rfl
theorem frz_succ {i : Nat} {e : En} {r : Rho} : frz (i + 1) (e :: r) = e :: frz i r := by
  unfold frz
  rw [List.getElem?_cons_succ]
  cases r[i]? with
  | none => rfl
  | some en =>
    cases en with
    | u => rfl
    | z d => rfl
    | o d => cases d <;> rfl
theorem sfrz_def {i : Nat} {s : Rho → SR} : sfrz i s ρ = s (frz i ρ) := rfl
theorem bor_def {i : Nat} {f : Rho → Res D} : bor i f ρ = flatR (f (frz i ρ)) := rfl
theorem borQ_def {i : Nat} {f : Rho → Res Bool} : borQ i f ρ = f (frz i ρ) := rfl
theorem flat_i {i : Int} : flatR (.ok (.int i)) = .ok (.int i) := rfl
theorem flat_s {x : Str} : flatR (.ok (.str x)) = .ok (.str x) := rfl
theorem flat_b {b : Bool} : flatR (.ok (.bl b)) = .ok (.bl b) := rfl
theorem flat_n : flatR (.ok .non) = .ok .non := rfl
theorem own_zero {ds : List D} {r : Rho} : ownR 0 (.o (.lst ds) :: r) = .ok ds := rfl
theorem own_succ {i : Nat} {e : En} {r : Rho} : ownR (i + 1) (e :: r) = ownR i r := rfl
def appRR (ds : Res (List D)) (r : Res D) (ρ : Rho) (i : Nat) : SR := bindS ds ρ fun ds => bindS r ρ fun d => if ds.length < sizeLine then .nx (ρ.set i (.o (.lst (ds ++ [d])))) else .bad
theorem sapp_def {i : Nat} {f : Rho → Res D} : sapp i f ρ = appRR (ownR i ρ) (f ρ) ρ i := rfl
theorem appRR_ok {ds : List D} {d : D} {i : Nat} (h : ds.length < 1000000) : appRR (.ok ds) (.ok d) ρ i = .nx (ρ.set i (.o (.lst (ds ++ [d])))) := by
  show (if ds.length < sizeLine then _ else _) = _
  rw [if_pos (by rw [sizeLine_eq]; omega)]
def putRR (v : Res D) (ds : Res (List D)) (k : Res D) (ρ : Rho) (i : Nat) : SR := bindS v ρ fun d => bindS ds ρ fun ds => bindS k ρ fun k => match k with
  | .int j => (match ixN ds.length j with
    | some m => .nx (ρ.set i (.o (.lst (ds.set m d))))
    | none => .bad)
  | _ => .bad
theorem sput_def {i : Nat} {f g : Rho → Res D} : sput i f g ρ = putRR (g ρ) (ownR i ρ) (f ρ) ρ i := rfl
def ixRR (ds : Res (List D)) (k : Res D) : Res D := ds.bind fun ds => k.bind fun k => match k with
  | .int j => ofO (atI ds j)
  | _ => .bad
theorem ixO_def {i : Nat} {f : Rho → Res D} : ixO i f ρ = ixRR (ownR i ρ) (f ρ) := rfl
end
end DN
/-! list(x) as an own list -/
namespace DN
open PySem PySem.Spec PyProof.Rows L2
open LamX (Tabs ExtN)
section
variable {X : Cx} {T : List (Addr × Str)} {W : WX}
end
end DN
/-! sorted of a list of texts -/
namespace DN
open PySem PySem.Spec PyProof.Rows L2
open LamX (Tabs ExtN)
section
variable {X : Cx} {T : List (Addr × Str)} {W : WX}
end
end DN
/-! tuples of texts whose object is known: tuple(list), len, [], in, index, + -/
namespace DN
open PySem PySem.Spec PyProof.Rows L2
open LamX (Tabs ExtN)
def inP : D → D → Option D
  | .str x, .pro xs => some (.bl (decide (x ∈ xs)))
  | _, _ => none
section
variable {X : Cx} {T : List (Addr × Str)} {W : WX}
/-! t.index(x), t a tuple whose object is known: one argument, by the kit's wpAny_Call_method1_late -/
variable {o e : Expr} {to : TE} {t : TA} {apos cpos : Pos}
end
end DN
/-! str.replace: rules where a token is out -/
namespace DN
open PySem PySem.Spec PyProof.Rows L2
open LamX (Tabs ExtN)
section
variable {X : Cx} {T : List (Addr × Str)} {W : WX} {F0 H0 : Hp}
end
end DN
/-! zip of two lists, of two tuples -/
namespace DN
open PySem PySem.Spec PyProof.Rows L2
open LamX (Tabs ExtN)
open RZ (ItzT iZipA pi_zipA)
section
variable {X : Cx} {T : List (Addr × Str)} {W : WX}
end
end DN
/-! x.replace(y, z, 1); statements behind which a token is out -/
namespace PySem
open Builtin Builtin.Str
section
variable {prog : Program} {w : World} {A : Around} {E : Value → Shared → Prop} {s : Shared} {x y z : Str} {t u v c : Tok} {Q : Value → Shared → Prop}
end
end PySem
namespace DN
open PySem PySem.Spec PyProof.Rows L2
open LamX (Tabs ExtN)
section
variable {X : Cx} {T : List (Addr × Str)} {W : WX} {F0 H0 : Hp}
end
end DN
/-! DN25: repr of nested tuples; a law whose body is read under the outermost call alone (no repr is under way there). -/
namespace DN
open PySem PySem.Spec PyProof.Rows L2
open LamX (Tabs ExtN TabB)

/-- repr(d) -/
def reprD : List D → Option D
  | [.tup ds] => if plain 60 (.tup ds) && (pyO (.tup ds)).showable && decide ((pyO (.tup ds)).shown.length ≤ sizeLine) then some (.str (pyO (.tup ds)).shown) else none
  | _ => none
section
variable {X : Cx} {T : List (Addr × Str)}
theorem c_repr (hg : X.A.guards = some []) (hu : X.A.units + 64 < cLine) : CallR X (.builtin "repr") (rDn X.K T reprD) := by
  intro pins s σ H xs us Q I r h
  obtain ⟨F, ds, z, hz, rd, hG, q⟩ := h
  cases rd with
  | nil => cases hG
  | cons r1 rt =>
    cases rt with
    | cons r2 rt => cases r1 <;> cases hG
    | nil =>
      cases r1 with
      | tup h1 ra =>
        rename_i a vs es
        have hG : (if plain 60 (.tup es) && (pyO (.tup es)).showable && decide ((pyO (.tup es)).shown.length ≤ sizeLine) then some (D.str (pyO (.tup es)).shown) else none) = some z := hG
        split at hG
        · rename_i hc
          cases hG
          simp only [Bool.and_eq_true, decide_eq_true_eq] at hc
          obtain ⟨⟨c1, c2⟩, c3⟩ := hc
          obtain ⟨p1, p2, p3⟩ := plain_py 60 (.tup es) (.ref a) c1 (Rp.mono hz.sub (.tup h1 ra))
          obtain ⟨u, rfl, ru⟩ := r.one
          cases ru
          obtain ⟨as, q1⟩ := Dp.reads I _ (.ref a) (.ref a) p1 rfl
          refine repr_of_reads' q1 c2 (PyData.noDict_hsm (PyData.hasDict_of_canLay _ p2)) hg (by omega) (fun _ _ e => e) (fun h' u tk hk => ?_) c3
          exact ⟨.str _, H, I.kept hk, ⟨_, rfl⟩, q _ F H (Nx.refl hz) (.str _)⟩
        · cases hG
      | _ => cases hG
end
theorem bt_repr : bootBuiltins "repr" = some (.builtin "repr") := by decide +kernel

/-! ### a law's def, read under the outermost call -/
def FnAt (P : Program) (w : World) (K : PySem.W.Frag) (mg : Str → Option Value) (base : Heap) (fa : Addr) (fd : FuncData) (ps : List Str) (sp : Sp) : Prop :=
  ∀ (s : Shared) (H : Hp) (args : Args) (us : List Value) (vs : List V) (Q : VK) (E : XK), Env0 P w K mg base callerA [] s H → BindsTo s fd args (ps.zip us) → Vals vs us → sp vs H Q E → codeAny (model P w) callerA (.call (.ref fa) args) (CR (L2.CX P w) [] P w H s Q E) s
/-- a body begins: its parameters are known, nothing is its own -/
theorem body_begins {K : PySem.W.Frag} {T : List (Addr × Str)} {N : List Str} {b : Rho → SR} {vs : List V} {ds : List D} {F H : Hp} {Q : VK} {E : XK} (z : Fz F H) (tb : Tabs T H) (r : RpAll K F vs ds)
    (h : aft (Rp K) K T (WofE E) [] F H Q (runB N.length b ds)) : tS K T (WofE E) F H b { nx := fun _ H' => Q .non H', rt := Q } (start N vs) H := by
  refine ⟨startR N.length ds, F, ⟨⟨z, tb, Rl.start r⟩, Nx.refl z, fun i d p own => ?_⟩, ?_⟩
  · have one := List.mem_of_getElem? own
    simp [startR] at one
  · unfold runB at h
    revert h
    cases b (startR N.length ds) with
    | nx ρ => exact fun h σ F' H' g _ => h _ _ _ g.nx .non
    | rt d => exact fun h v F' H' n rv => h _ _ _ n rv
    | ex m ρ => exact fun h σ F' H' g _ => h _ _ g.nx
    | bk ρ => exact False.elim
    | ct ρ => exact False.elim
    | bad => exact False.elim
theorem fn_at {P : Program} {w : World} {K : PySem.W.Frag} {mg : Str → Option Value} {base : Heap} {T : List (Addr × Str)} {k : Nat} {x qual : Str} {params : Arguments} {body : List Stmt} {scope : Scope} {kws : List (Str × V)} {fd : FuncData} {N ps : List Str} {n : Nat} {b : Rho → SR}
    (Fd : FunD K x qual params body scope [] kws (He.ga K x) fd) (S : FnScope N ps scope) (hn : ps.length = n) (hr : Room (k + 1) callerA)
    (hb : ∀ (s0 : Shared) (H0 : Hp) (E : XK) (F0 : Hp), Room k (callerA.deeper (envOfC qual scope s0.heap.objs.size (He.ga K x) (.ref (He.cT K (x, none)).1))) → DSs (cxOf (L2.CX P w) P w K mg base N qual scope (He.ga K x) (.ref (He.cT K (x, none)).1) callerA [] s0 H0 E) T (WofE E) F0 H0 body b) :
    FnAt P w K mg base (He.ga K x) fd ps (spD K T n (runB N.length b)) := by
  obtain ⟨oc, od, dV, kV, doc, pm, an, cdv, ct, osl, rfl, lk, hcd, -, -⟩ := Fd.ex
  obtain ⟨c, rfl⟩ := He.codeIn_ref hcd
  rw [show (He.cT K (x, none)).1 = c from He.codeOf_eq (p := (x, none)) lk rfl] at hb
  rintro s H args us vs Q E e0 binds rv ⟨F, ds, z, tb, r, hl, den⟩
  have old : ∀ b o, base.get? b = some o → s.heap.get? b = some o := fun b o e => (e0.bs b o e).1
  have kin := e0.mod.kin.keeps old
  have places : ∀ y ∈ ps.zip us, scope.names.lookup y.1 = some .local ∨ (scope.names.lookup y.1 = some .cell ∧ ((cellsFrom (s.heap.objs.size + 1) scope.names []).lookup y.1).isSome = true) :=
    fun y hy => (S.par y.1 (List.of_mem_zip (a := y.1) (b := y.2) hy).1).imp id fun q => ⟨q, PySem.W.cellsFrom_some _ _ _ (.inl q)⟩
  refine codeAny_call_function hr.depth (kin _ _ lk) rfl S.co S.gen rfl (PySem.W.codeRec_of kin hcd) (binds _ _ _ _ (wpAny_newFunctionEnv_cells S.kind places ?_))
  rintro _ rfl s1 made
  have I := inv_start (CX := L2.CX P w) (E := E) S hr.hd e0 (by rw [r.length, hl, hn]) rv made
  have ran := (hb s H E F (hr.deeper _)).run [] s1 (start N vs) H _ I (body_begins z tb r den)
  refine ⟨(e0.mod.nolimit.keeps old).keeps made.toInCall.keep, codeAny_func (wpAny_mono ran (fun fl s' told => ?_) fun _ _ q => q)⟩
  match fl, told with
  | .ret _, ⟨v, _, H', J, rv, q⟩ => exact ⟨v, H', J.os, J.bare, J.base, J.hok, rv, q⟩
  | .next, ⟨_, H', J, q⟩ => exact ⟨.non, H', J.os, J.bare, J.base, J.hok, rfl, q⟩
  | .brk, ⟨_, _, _, q⟩ => exact False.elim q
  | .cont, ⟨_, _, _, q⟩ => exact False.elim q

/-! the heap at the law's entry: the script (if the head doesn't hold it) and the empty tables are tracked -/
def entryH (K : PySem.W.Frag) (cs : List (Addr × Addr)) (a : Addr) (o : Obj) (ns : List Int) : Hp := fun b =>
  if b ∈ cs.map (·.2) then some (.tbl #[]) else if b = a ∧ K.lookup a = none then some (.frz o (.lst (ns.map V.int))) else none
def noRow : Obj := { cls := .none, data := .fields #[] }
section
variable {K : PySem.W.Frag} {cs : List (Addr × Addr)} {a b : Addr} {o : Obj} {ns : List Int} {h : Heap} {u : HO}
theorem entry_tab {p : Addr × Addr} (hp : p ∈ cs) : entryH K cs a o ns p.2 = some (.tbl #[]) := if_pos (List.mem_map.mpr ⟨p, hp, rfl⟩)
/-- what is tracked at the entry: a table, or the script -/
theorem entry_is (e : entryH K cs a o ns b = some u) : (∃ p ∈ cs, b = p.2 ∧ u = .tbl #[]) ∨ (b = a ∧ K.lookup a = none ∧ u = .frz o (.lst (ns.map V.int))) := by
  unfold entryH at e
  split at e
  · rename_i m
    obtain ⟨p, hp, q⟩ := List.mem_map.mp m
    exact .inl ⟨p, hp, q.symm, (Option.some.inj e).symm⟩
  · split at e
    · rename_i m
      exact .inr ⟨m.1, m.2, (Option.some.inj e).symm⟩
    · cases e
/-- an object that is neither an empty row nor the script is seen below the entry -/
theorem entry_seen (hT : ∀ p ∈ cs, h.get? p.2 = some noRow) (ha : h.get? a = some o) {x : Obj} (e : h.get? b = some x) (n1 : x ≠ noRow) (n2 : x ≠ o) : (hidT h (entryH K cs a o ns)).get? b = some x := by
  refine hidT_get e (Option.eq_none_iff_forall_ne_some.mpr fun u q => ?_)
  rcases entry_is q with ⟨p, hp, rfl, _⟩ | ⟨rfl, _, _⟩
  · exact n1 (Option.some.inj (e.symm.trans (hT p hp)))
  · exact n2 (Option.some.inj (e.symm.trans ha))
/-- the head's objects are seen -/
theorem entry_kin (nT : ∀ p ∈ cs, K.lookup p.2 = none) (kx : K.In h) : K.In (hidT h (entryH K cs a o ns)) := fun b x e =>
  hidT_get (kx b x e) (Option.eq_none_iff_forall_ne_some.mpr fun u q => by
    rcases entry_is q with ⟨p, hp, rfl, _⟩ | ⟨rfl, n, _⟩
    · cases e.symm.trans (nT p hp)
    · cases e.symm.trans n)
end
/-- what the law's end wants of the law's def -/
structure KeepsG (l : PySem.W.OpenLaw) (w : World) (K : PySem.W.Frag) (n : Nat) (x : Str) (mg : Str → Option Value) (fa : Addr) (h : Heap) (fd : FuncData) (cs : List (Addr × Addr)) (sp : Sp) : Prop where
  empty : ∀ p ∈ cs, h.get? p.2 = some noRow
  out : ∀ p ∈ cs, K.lookup p.2 = none
  code : ∀ p ∈ cs, PySem.W.CodeHd h p.1 p.2
  binds : ∀ (s : Shared) (u : Value), BindsTo s fd ⟨[u], []⟩ [(x, u)]
  yes : ∀ (H : Hp) (a : Addr) (ns : List Int), ns.length ≤ n → (∀ z ∈ ns, Builtin.Int.intBits z ≤ 1048576) → (∀ p ∈ cs, H p.2 = some (.tbl #[])) → SqL K H a (ns.map V.int) → sp [.ref a] H (fun v _ => v = .bl true) fun _ _ _ => False
  fn : ∀ base : Heap, K.In base → base.Ns mainGlobals mg → (∀ p ∈ cs, TabB base mg p.1 p.2) → FnAt l.prog w K mg base fa fd [x] sp
def LawAtG (l : PySem.W.OpenLaw) (w : World) (K : PySem.W.Frag) (n : Nat) (x : Str) (mg : Str → Option Value) (fa : Addr) (h : Heap) : Prop := ∃ fd cs sp, KeepsG l w K n x mg fa h fd cs sp
section
variable {l : PySem.W.OpenLaw} {w : World} {K : PySem.W.Frag} {n : Nat} {x : Str} {mg mb : Str → Option Value} {fa a : Addr} {fd : FuncData} {cs : List (Addr × Addr)} {sp : Sp} {s s' : Shared} {vs : List Value} {ns : List Int} {o : Obj}
theorem entry_dict (hT : ∀ p ∈ cs, s.heap.get? p.2 = some noRow) (ha : s.heap.get? a = some { cls := .type "list", data := .seq vs.toArray }) {b : Addr} {m : Str → Option Value} (d : s.heap.Ns b m) :
    (hidT s.heap (entryH K cs a { cls := .type "list", data := .seq vs.toArray } ns)).Ns b m :=
  let ⟨_, es, ep, e, dt, r⟩ := d
  ⟨_, es, ep, entry_seen hT ha e (by rintro rfl; cases dt) (by rintro rfl; cases dt), dt, r⟩
/-- the environment of the law's call -/
theorem entry_env {q : Program} {loose : List Str} {mean : ExcName → Option Value} (kp : KeepsG l w K n x mg fa s.heap fd cs sp) (kx : K.In s.heap) (T : Top q loose mean mg mb s.heap) (hg : s.gens = #[])
    (ha : s.heap.get? a = some { cls := .type "list", data := .seq vs.toArray }) (hi : IntsAre vs ns) (hl : ns.length ≤ sizeLine) :
    Env0 l.prog w K mg (hidT s.heap (entryH K cs a { cls := .type "list", data := .seq vs.toArray } ns)) callerA [] s (entryH K cs a { cls := .type "list", data := .seq vs.toArray } ns) where
  frames := rfl
  mod := ⟨entry_kin kp.out kx, entry_dict kp.empty ha T.g, ⟨mb, entry_dict kp.empty ha T.b, T.builtins⟩, T.nolimit.imp fun _ d => d.imp (entry_dict kp.empty ha) id⟩
  bs := fun _ _ => of_hidT
  bsz := Nat.le_of_eq (hidT_size _ _)
  funs := trivial
  frf := fun b hb => absurd (show b ∈ ([] : List Addr) from hb) (by simp)
  hok := fun b u e => by
    rcases entry_is e with ⟨p, hp, rfl, rfl⟩ | ⟨rfl, _, rfl⟩
    · exact kp.empty p hp
    · exact ⟨ha, by rwa [List.length_map], vs, _, vals_ints hi, ha⟩
  bare := .of_eq hg
theorem entry_tabs {q : Program} {loose : List Str} {mean : ExcName → Option Value} (kp : KeepsG l w K n x mg fa s.heap fd cs sp) (T : Top q loose mean mg mb s.heap) (ha : s.heap.get? a = some { cls := .type "list", data := .seq vs.toArray }) :
    ∀ p ∈ cs, TabB (hidT s.heap (entryH K cs a { cls := .type "list", data := .seq vs.toArray } ns)) mg p.1 p.2 := fun p hp => by
  have row := kp.empty p hp
  obtain ⟨g, _, _, eg, dg, _⟩ := T.g
  have apart : mainGlobals ≠ p.2 := fun z => by
    cases (z ▸ eg).symm.trans row
    cases dg
  refine ⟨?_, ?_, apart⟩
  · obtain ⟨c, us, file, tf, flags, tg, inF, text, tt, e, k, r⟩ := kp.code p hp
    exact ⟨c, us, file, tf, flags, tg, inF, text, tt, entry_seen kp.empty ha e (by rintro rfl; cases k) (by rintro rfl; simp at k), k, r⟩
  · obtain ⟨bm, c, e1, e2, e3, k, r1, r2⟩ := T.bmain
    refine ⟨bm, c, e1, e2, fun z => ?_, fun z => ?_, entry_seen kp.empty ha e3 (by rintro rfl; cases k) (by rintro rfl; simp at k), k, r1, r2⟩
    · cases (z ▸ e3).symm.trans eg
      cases r2.symm.trans dg
    · cases (z ▸ e3).symm.trans row
      cases k
theorem entry_script (kp : KeepsG l w K n x mg fa s.heap fd cs sp) (kx : K.In s.heap) (ha : s.heap.get? a = some { cls := .type "list", data := .seq vs.toArray }) (hi : IntsAre vs ns) (hl : ns.length ≤ sizeLine) :
    SqL K (entryH K cs a { cls := .type "list", data := .seq vs.toArray } ns) a (ns.map V.int) := by
  cases k : K.lookup a with
  | some c =>
    obtain rfl := Option.some.inj ((kx a c k).symm.trans ha)
    exact .inr ⟨_, vs.toArray, _, k, rfl, rfl, rfl, by simpa [hi.length] using hl, by simpa using vals_ints hi⟩
  | none =>
    have no : a ∉ cs.map (·.2) := fun m => by
      obtain ⟨p, hp, z⟩ := List.mem_map.mp m
      cases (z ▸ ha).symm.trans (kp.empty p hp)
    exact .inl (.inr ⟨_, (if_neg no).trans (if_pos ⟨rfl, k⟩)⟩)
/-- what was there stays, but for the tables, which grow -/
theorem entry_old (kp : KeepsG l w K n x mg fa s.heap fd cs sp) (ha : s.heap.get? a = some o) {H' : Hp} (un : Un [] [] (entryH K cs a o ns) H' s.heap s'.heap) (ok : HOk l.prog w H' s'.heap) : OldK s.heap s'.heap := by
  have now : ∀ b c, s.heap.get? b = some c → s'.heap.get? b = some c ∨ ∃ p ∈ cs, b = p.2 ∧ c = noRow ∧ ∃ more, s'.heap.get? b = some { noRow with data := .fields more } := fun b c e => by
    cases t : entryH K cs a o ns b with
    | none => exact .inl (un.keep b c e t (by simp) (by simp))
    | some u =>
      rcases entry_is t with ⟨p, hp, rfl, rfl⟩ | ⟨rfl, _, rfl⟩
      · obtain ⟨more, k⟩ := un.tbls _ _ t
        exact .inr ⟨p, hp, rfl, Option.some.inj (e.symm.trans (kp.empty p hp)), _, ok _ _ k⟩
      · cases e.symm.trans ha
        exact .inl (ok _ _ (un.frzs _ _ _ t)).1
  refine ⟨fun b c e => ?_, fun b c e => ?_⟩
  · rcases now b c e with k | ⟨p, hp, rfl, rfl, more, k⟩
    · exact .inl k
    · exact .inr (.inl ⟨((kp.code p hp).tab (kp.empty p hp)).isCodeTable, rfl, #[], more, rfl, by rw [Array.empty_append]; exact k⟩)
  · rcases now b c e with k | ⟨_, _, _, _, _, k⟩
    · exact ⟨_, k⟩
    · exact ⟨_, k⟩
end
theorem walk_ofG {l : PySem.W.OpenLaw} {n : Nat} {q : Program} {loose : List Str} {XP : (Str → Option Value) → Heap → Prop} {YP : World → Heap → Prop} {d : DefRec} {x : Str} (hn : l.most = some n) (hn2 : n ≤ sizeLine) (hdf : d.params.defaults = [])
    (F : ∀ (w : World) (mg : Str → Option Value) (fa : Addr) (h : Heap), YP w h → h.Ns mainGlobals mg → mg d.name = some (.ref fa) → ∃ K : PySem.W.Frag, K.In h ∧ LawAtG l w K n x mg fa h) :
    PySem.W.WalkO q loose XP YP l.row.toRowW d [] (fun f vs => PySem.call f vs) := by
  apply Att.attach_callB hn hdf
  intro w s₀ s mg mb fa _ _ _ _ a vs ns G Y _ _ _ there script whole few bits hg
  obtain ⟨K, kx, fd, cs, sp, kp⟩ := F w mg fa _ Y G.T.g there
  have fits := Nat.le_trans few hn2
  have yes := kp.yes _ a ns few bits (fun _ => entry_tab) (entry_script kp kx script whole fits)
  have env := entry_env kp kx G.T hg script whole fits
  refine codeAny_mono (kp.fn _ env.mod.kin env.mod.glob (entry_tabs kp G.T script) s _ ⟨[.ref a], []⟩ [.ref a] [.ref a] _ _ env (kp.binds s _) (.cons rfl .nil) yes) fun r s' told => ?_
  match r, told with
  | .error _, z => exact (cx_false z).elim
  | .ok (.ret _), ⟨_, _, os, bare, un, ok, rv, q⟩ =>
    subst q
    cases rv
    exact ⟨rfl, entry_old kp script un ok, os, bare⟩
theorem lawAtG {l : PySem.W.OpenLaw} {w : World} {K : PySem.W.Frag} {n : Nat} {x : Str} {mg : Str → Option Value} {fa : Addr} {h : Heap} {fd : FuncData} {den : List D → Res D} {tf : List He.Defn} {T : List (Addr × Str)} (X : K.In h)
    (hd0 : ∀ p ∈ tf, PySem.W.codeHdIn K (He.cT K p).1 (He.cT K p).2 = true) (out : ∀ p ∈ tf, K.lookup (He.cT K p).2 = none) (empty : ∀ p ∈ tf, h.get? (He.cT K p).2 = some { cls := .none, data := .fields #[] })
    (hT : ∀ p ∈ T, ∃ d ∈ tf, p.1 = (He.cT K d).2)
    (hb : ∀ (s : Shared) (u : Value), BindsTo s fd ⟨[u], []⟩ [(x, u)])
    (hd : ∀ ns : List Int, ns.length ≤ n → (∀ z ∈ ns, Builtin.Int.intBits z ≤ 1048576) → den [.arr ns] = .ok (.bl true))
    (hF : ∀ base : Heap, K.In base → base.Ns mainGlobals mg → (∀ d ∈ tf, TabB base mg (He.cT K d).1 (He.cT K d).2) → FnAt l.prog w K mg base fa fd [x] (spD K T 1 den)) : LawAtG l w K n x mg fa h := by
  have each : ∀ {φ : Addr × Addr → Prop}, (∀ d ∈ tf, φ (He.cT K d)) → ∀ p ∈ tf.map (He.cT K), φ p := fun f p hp => let ⟨d, hd, e⟩ := List.mem_map.mp hp; e ▸ f d hd
  exact ⟨fd, tf.map (He.cT K), spD K T 1 den, each empty, each out, each fun d h => PySem.W.codeHd_of_K X (hd0 d h), hb,
    fun H a ns few bits rows script => law_sp (fun p hp => let ⟨d, h, e⟩ := hT p hp; e ▸ LamX.TabS.nil (rows _ (List.mem_map.mpr ⟨d, h, rfl⟩))) script (hd ns few bits),
    fun base k g tabs => hF base k g fun d h => tabs _ (List.mem_map.mpr ⟨d, h, rfl⟩)⟩
end DN
/-! dicts of the frame's own whose keys are nested tuples -/
namespace DN
open PySem PySem.Spec PyProof.Rows L2
open LamX (Tabs ExtN)

section
variable {X : Cx} {pins : List (Addr × Obj)} {σ : L2.St} {F H : Hp} {s : Shared}
end
/-! ### looked up, stored -/
section
variable {K : PySem.W.Frag} {F : Hp} {es : List (NestedKey × Addr × V)} {ks vs : List D} {xs : List (NestedKey × Addr × Value)} {n : NestedKey}
end
/-! ### the operations, by the heap -/
section
variable {X : Cx}
theorem DicR.length {K : PySem.W.Frag} {F : Hp} {es : List (NestedKey × Addr × V)} {ks vs : List D} (r : DicR K F es ks vs) : es.length = ks.length := by
  induction r with
  | nil => rfl
  | cons _ _ _ _ _ ih => rw [List.length_cons, List.length_cons, ih]
end
/-! ### no dict is a code object -/
theorem tabs_updG {T : List (Addr × Str)} {H : Hp} {p : Addr} {o o' : HO} (h : Tabs T H) (e : H p = some o) (h1 : ∀ ps, o ≠ .tbl ps) (h2 : ∀ q, o ≠ LamX.CodeO p q) : Tabs T (upd H p o') := fun q hq => by
  obtain ⟨ps, k1, k2, k3⟩ := h q hq
  refine ⟨ps, ?_, k2, fun pos cv hc => ?_⟩
  · rw [upd_ne fun z => by rw [z, e] at k1; exact h1 ps (Option.some.inj k1)]; exact k1
  · obtain ⟨c, e1, e2⟩ := k3 pos cv hc
    refine ⟨c, e1, ?_⟩
    rw [upd_ne fun z => by subst z; rw [e] at e2; exact h2 _ (Option.some.inj e2)]; exact e2
theorem OwnAt.updN {K : PySem.W.Frag} {F H : Hp} {p q : Addr} {o : HO} (hne : q ≠ p) : ∀ {d : D}, OwnAt K F H q d → OwnAt K F (upd H p o) q d
  | .lst ds, ⟨zs, k1, k2⟩ => ⟨zs, by rw [upd_ne hne]; exact k1, k2⟩
  | .dK _, h => by show upd H p o q = _; rw [upd_ne hne]; exact h
  | .dT _, h => by show upd H p o q = _; rw [upd_ne hne]; exact h
  | .dic _ _ _ _, ⟨es, k1, k2⟩ => ⟨es, by rw [upd_ne hne]; exact k1, k2⟩
  | .ins _ _ _, ⟨dx, ws, k1, k2⟩ => ⟨dx, ws, by rw [upd_ne hne]; exact k1, k2⟩
  | .non, h => h.elim
  | .bl _, h => h.elim
  | .int _, h => h.elim
  | .str _, h => h.elim
  | .tup _, h => h.elim
  | .fn _, h => h.elim
  | .ty _, h => h.elim
  | .arr _, h => h.elim
  | .pro _, h => h.elim
  | .adr _, h => h.elim
  | .tab _ _ _, h => h.elim
section
variable {K : PySem.W.Frag} {T : List (Addr × Str)} {W : WX} {F0 H0 F H : Hp} {σ : L2.St} {ρ : Rho}
end
/-! ### by data -/
section
variable {X : Cx} {T : List (Addr × Str)} {W : WX} {F0 H0 : Hp}
end
end DN
/-! known tuples of texts: written ones, + -/
namespace DN
open PySem PySem.Spec PyProof.Rows L2
open LamX (Tabs ExtN)
section
variable {X : Cx} {T : List (Addr × Str)} {W : WX}
end
end DN
/-! M-mode: one slot holds a dict of text keys that is changed, also by callees -/
namespace DN
open PySem PySem.Spec PyProof.Rows L2
open LamX (Tabs ExtN)

/-! ### data without lists and dicts -/
mutual
def D.imm : D → Bool
  | .non => true
  | .bl _ => true
  | .int _ => true
  | .str _ => true
  | .fn _ => true
  | .ty _ => true
  | .adr _ => true
  | .pro _ => true
  | .pw _ => true
  | .tup ds => D.imms ds
  | _ => false
def D.imms : List D → Bool
  | [] => true
  | d :: ds => D.imm d && D.imms ds
end
/-- F without the addresses of S -/
def cut (F : Hp) (S : List Addr) : Hp := fun a => if a ∈ S then none else F a
theorem cut_out {F : Hp} {S : List Addr} {a : Addr} (h : a ∉ S) : cut F S a = F a := if_neg h
/-- lists and dicts alone stand there -/
def Soft (F : Hp) (S : List Addr) : Prop := ∀ a ∈ S, ∀ o, F a = some o → (∃ xs, o = .lst xs) ∨ ∃ kvs, o = .dK kvs
theorem cut_sqT {K : PySem.W.Frag} {F : Hp} {S : List Addr} {a : Addr} {xs : List V} (h : SqT K F a xs) (hs : Soft F S) : SqT K (cut F S) a xs := by
  rcases h with h | h
  · refine .inl ?_
    rcases h with h | ⟨o, h⟩
    · refine .inl ?_
      rw [cut_out fun z => ?_]; exact h
      rcases hs a z _ h with ⟨_, e⟩ | ⟨_, e⟩ <;> cases e
    · refine .inr ⟨o, ?_⟩
      rw [cut_out fun z => ?_]; exact h
      rcases hs a z _ h with ⟨_, e⟩ | ⟨_, e⟩ <;> cases e
  · exact .inr h
mutual
theorem Rp.cutS {K : PySem.W.Frag} {F : Hp} {S : List Addr} (hs : Soft F S) : ∀ {v : V} {d : D}, Rp K F v d → d.imm = true → Rp K (cut F S) v d
  | _, _, .non, _ => .non
  | _, _, .bl b, _ => .bl b
  | _, _, .int i, _ => .int i
  | _, _, .str x, _ => .str x
  | _, _, .fn x, _ => .fn x
  | _, _, .ty n, _ => .ty n
  | _, _, .lst h t, e => by unfold D.imm at e; cases e
  | _, _, .tup h t, e => .tup (cut_sqT h hs) (RpAll.cutS hs t (by unfold D.imm at e; exact e))
  | _, _, .dK h, e => by unfold D.imm at e; cases e
  | _, _, .dT h, e => by unfold D.imm at e; cases e
  | _, _, .arr h, e => by unfold D.imm at e; cases e
  | _, _, .pro ⟨o, h1, h2, h3⟩, _ => .pro ⟨o, h1, h2, by
      rw [cut_out fun z => ?_]; exact h3
      rcases hs _ z _ h3 with ⟨_, e⟩ | ⟨_, e⟩ <;> cases e⟩
  | _, _, .pw h, _ => .pw (by
      rw [cut_out fun z => ?_]; exact h
      rcases hs _ z _ h with ⟨_, e⟩ | ⟨_, e⟩ <;> cases e)
  | _, _, .adr a, _ => .adr a
  | _, _, .frm h t, e => by unfold D.imm at e; cases e
  | _, _, .tab h1 h2 h3 t, e => by unfold D.imm at e; cases e
theorem RpAll.cutS {K : PySem.W.Frag} {F : Hp} {S : List Addr} (hs : Soft F S) : ∀ {vs : List V} {ds : List D}, RpAll K F vs ds → D.imms ds = true → RpAll K (cut F S) vs ds
  | _, _, .nil, _ => .nil
  | _, _, .cons h t, e => by
    unfold D.imms at e
    rw [Bool.and_eq_true] at e
    exact .cons (Rp.cutS hs h e.1) (RpAll.cutS hs t e.2)
end
/-! ### the state -/
/-- the fields: tuples and flat things, or own lists of such (their addresses) -/
inductive Flds (K : PySem.W.Frag) (F H : Hp) : List V → List D → List Addr → Prop
  | nil : Flds K F H [] [] []
  | imm {v : V} {d : D} {vs : List V} {ds : List D} {S : List Addr} : d.imm = true → Rp K F v d → Flds K F H vs ds S → Flds K F H (v :: vs) (d :: ds) S
  | lst {a : Addr} {xs : List V} {es : List D} {vs : List V} {ds : List D} {S : List Addr} : H a = some (.lst xs) → RpAll K F xs es → D.imms es = true → Flds K F H vs ds S → Flds K F H (.ref a :: vs) (.lst es :: ds) (a :: S)
abbrev MSt := List Str × List D
structure StAt (K : PySem.W.Frag) (F H : Hp) (p : Addr) (m : MSt) (S : List Addr) : Prop where
  ex : ∃ ws S', S = p :: S' ∧ H p = some (.dK (kvK m.1 ws)) ∧ m.1.length = ws.length ∧ Flds K F H ws m.2 S'
  nd : S.Nodup
  out : ∀ a ∈ S, F a = none
  nk : m.1.Nodup
theorem Flds.solid {K : PySem.W.Frag} {F H : Hp} {ws : List V} {ds : List D} {S : List Addr} (h : Flds K F H ws ds S) : ∀ a ∈ S, ∃ xs, H a = some (.lst xs) := by
  induction h with
  | nil => intro a h; cases h
  | imm _ _ _ ih => exact ih
  | lst h _ _ _ ih =>
    intro a ha
    rcases List.mem_cons.mp ha with rfl | ha
    · exact ⟨_, h⟩
    · exact ih a ha
theorem StAt.solid {K : PySem.W.Frag} {F H : Hp} {p : Addr} {m : MSt} {S : List Addr} (h : StAt K F H p m S) : ∀ a ∈ S, ∃ o, H a = some o ∧ ((∃ xs, o = .lst xs) ∨ ∃ kvs, o = .dK kvs) := by
  obtain ⟨ws, S', rfl, h1, _, h2⟩ := h.ex
  intro a ha
  rcases List.mem_cons.mp ha with rfl | ha
  · exact ⟨_, h1, .inr ⟨_, rfl⟩⟩
  · obtain ⟨xs, e⟩ := h2.solid a ha
    exact ⟨_, e, .inl ⟨_, rfl⟩⟩
theorem soft_nt {o : HO} (h : (∃ xs, o = .lst xs) ∨ ∃ kvs, o = .dK kvs) : ∀ ps, o ≠ .tbl ps := fun ps z => by
  rcases h with ⟨_, e⟩ | ⟨_, e⟩ <;> (rw [e] at z; cases z)
theorem StAt.mem {K : PySem.W.Frag} {F H : Hp} {p : Addr} {m : MSt} {S : List Addr} (h : StAt K F H p m S) : p ∈ S := by
  obtain ⟨_, _, rfl, _⟩ := h.ex
  exact List.mem_cons_self
theorem Flds.mono {K : PySem.W.Frag} {F H F' H' : Hp} {ws : List V} {ds : List D} {S : List Addr} (sf : Sub F F') (sh : ∀ a ∈ S, ∀ xs, H a = some (.lst xs) → H' a = some (.lst xs)) (h : Flds K F H ws ds S) : Flds K F' H' ws ds S := by
  induction h with
  | nil => exact .nil
  | imm e r _ ih => exact .imm e (r.mono sf) (ih sh)
  | lst h r e _ ih => exact .lst (sh _ List.mem_cons_self _ h) (r.mono sf) e (ih fun a ha => sh a (List.mem_cons_of_mem _ ha))
section
variable {K : PySem.W.Frag} {T : List (Addr × Str)} {W : WX} {F0 G F H F1 H1 : Hp} {σ : L2.St} {ρ : Rho} {p : Addr} {m : MSt} {S : List Addr}
theorem StAt.nx (h : StAt K F H p m S) (n : Nx T F H F1 H1) : StAt K F1 H1 p m S where
  ex := by
    obtain ⟨ws, S', e, h1, hl, h2⟩ := h.ex
    exact ⟨ws, S', e, n.keep h1 (fun ps z => by cases z), hl, h2.mono n.f fun a _ xs e => n.keep e fun ps z => by cases z⟩
  nd := h.nd
  nk := h.nk
  out := fun a ha => by
    obtain ⟨o, h1, h2⟩ := h.solid a ha
    exact n.out h1 (soft_nt h2) (h.out a ha) fun xs z => by rcases h2 with ⟨_, e⟩ | ⟨_, e⟩ <;> (rw [e] at z; cases z)
/-! ### lent: the state stands in the frozen part for a while -/
def lend (F H : Hp) (S : List Addr) : Hp := fun a => if a ∈ S then H a else F a
theorem lend_in {a : Addr} (h : a ∈ S) : lend F H S a = H a := if_pos h
theorem lend_out {a : Addr} (h : a ∉ S) : lend F H S a = F a := if_neg h
theorem lend_sub (h : ∀ a ∈ S, F a = none) : Sub F (lend F H S) := fun a o e => by
  rw [lend_out fun z => by rw [h a z] at e; cases e]; exact e
theorem lend_z (z : Fz F H) (h : StAt K F H p m S) : Fz (lend F H S) H where
  sub := fun a o e => by
    by_cases ha : a ∈ S
    · rw [lend_in ha] at e; exact e
    · rw [lend_out ha] at e; exact z.sub a o e
  nt := fun a ps e => by
    by_cases ha : a ∈ S
    · rw [lend_in ha] at e
      obtain ⟨o, h1, h2⟩ := h.solid a ha
      rw [e] at h1; cases h1
      exact soft_nt h2 ps rfl
    · rw [lend_out ha] at e; exact z.nt a ps e
theorem lend_flds {ws : List V} {ds : List D} {S' : List Addr} (sb : ∀ a ∈ S', a ∈ S) (sf : Sub F (lend F H S)) (h : Flds K F H ws ds S') : RpAll K (lend F H S) ws ds := by
  induction h with
  | nil => exact .nil
  | imm e r _ ih => exact .cons (r.mono sf) (ih sb)
  | lst h r e _ ih => exact .cons (.lst (by rw [lend_in (sb _ List.mem_cons_self)]; exact h) (r.mono sf)) (ih fun a ha => sb a (List.mem_cons_of_mem _ ha))
theorem lend_rp (h : StAt K F H p m S) : Rp K (lend F H S) (.ref p) (.tab (some p) m.1 m.2) := by
  obtain ⟨ws, S', e, h1, hl, h2⟩ := h.ex
  exact .tab (fun q e => Option.some.inj e) (by rw [lend_in h.mem]; exact h1) hl (lend_flds (fun a ha => by rw [e]; exact List.mem_cons_of_mem _ ha) (lend_sub h.out) h2)
end
end DN
namespace DN
open PySem PySem.Spec PyProof.Rows L2
open LamX (Tabs ExtN)

/-! ### M-mode: statements -/
inductive SM where
  | nx (ρ : Rho) (m : MSt) | fin (b : Bool) (m : MSt) | rt (d : D) | ex (n : Str) | bad
def Free (G : Hp) (S : List Addr) : Prop := ∀ a ∈ S, ∀ o, G a = some o → ∃ ps, o = HO.tbl ps
structure Mg (K : PySem.W.Frag) (T : List (Addr × Str)) (F0 G F H : Hp) (σ : L2.St) (ρ : Rho) (i : Nat) (p : Addr) (m : MSt) (S : List Addr) : Prop where
  at_ : At K T F H σ ρ
  nx : Nx T F0 G F H
  no : ∀ (j : Nat) (d : D), ρ[j]? ≠ some (En.o d)
  me : ρ[i]? = some (En.z (.adr p))
  st : StAt K F H p m S
  fr : Free G S
def aftM (K : PySem.W.Frag) (T : List (Addr × Str)) (W : WX) (F0 G F : Hp) (i : Nat) (p : Addr) (Z : Ends) : SM → Prop
  | .nx ρ m => ∀ σ F' H' S, Mg K T F0 G F' H' σ ρ i p m S → Sub F F' → Z.nx σ H'
  | .fin b m => ∀ F' H' S, Nx T F0 G F' H' → StAt K F' H' p m S → Free G S → Z.rt (if b = true then .ref p else .non) H'
  | .rt d => ∀ v F' H', Nx T F0 G F' H' → Rp K F' v d → Z.rt v H'
  | .ex n => ∀ σ F' H', Nx T F0 G F' H' → W (.ref (He.ga K n)) none σ H'
  | .bad => False
section
variable {K : PySem.W.Frag} {T : List (Addr × Str)} {W : WX} {F0 G F H F1 H1 : Hp} {σ : L2.St} {ρ : Rho} {i : Nat} {p : Addr} {m : MSt} {S : List Addr} {Z : Ends}
theorem aftM.mono {r : SM} (e : Sub F F1) (h : aftM K T W F0 G F i p Z r) : aftM K T W F0 G F1 i p Z r := by
  cases r with
  | nx ρ m => exact fun σ F' H' S g s => h σ F' H' S g (e.trans s)
  | fin b m => exact h
  | rt d => exact h
  | ex n => exact h
  | bad => exact h
theorem Mg.step (g : Mg K T F0 G F H σ ρ i p m S) (n : Nx T F H F1 H1) : Mg K T F0 G F1 H1 σ ρ i p m S := ⟨g.at_.nx n, g.nx.trans n, g.no, g.me, g.st.nx n, g.fr⟩
theorem Mg.sg (g : Mg K T F0 G F H σ ρ i p m S) : Sg K T F H F H σ ρ := ⟨g.at_, Nx.refl g.at_.z, fun j d q h1 => absurd h1 (g.no j d)⟩
end
def adrOf (i : Nat) (ρ : Rho) : Option Addr := match ρ[i]? with
  | some (.z (.adr p)) => some p
  | _ => none
theorem adrOf_me {i : Nat} {ρ : Rho} {p : Addr} (h : ρ[i]? = some (En.z (.adr p))) : adrOf i ρ = some p := by
  unfold adrOf; rw [h]
def lent (i : Nat) (ρ : Rho) (m : MSt) : Rho := match adrOf i ρ with
  | some p => ρ.set i (.z (.tab (some p) m.1 m.2))
  | none => ρ
section
variable {K : PySem.W.Frag} {T : List (Addr × Str)} {W : WX} {F0 G F H F1 H1 : Hp} {σ : L2.St} {ρ : Rho} {i : Nat} {p : Addr} {m : MSt} {S : List Addr} {Z : Ends}
theorem lent_me (h : ρ[i]? = some (En.z (.adr p))) : lent i ρ m = ρ.set i (.z (.tab (some p) m.1 m.2)) := by
  unfold lent; rw [adrOf_me h]
theorem Mg.lent (g : Mg K T F0 G F H σ ρ i p m S) : At K T (lend F H S) H σ (DN.lent i ρ m) := by
  rw [lent_me g.me]
  have sb := lend_sub (H := H) g.st.out
  obtain ⟨v, h1, h2⟩ := g.at_.r.z i _ g.me
  cases h2
  have r : Rl K (lend F H S) H σ ρ := ⟨g.at_.r.len, fun j d e => let ⟨v, h1, h2⟩ := g.at_.r.z j d e; ⟨v, h1, h2.mono sb⟩, fun j d e => absurd e (g.no j d), fun j k d e q1 q2 _ h => absurd h (g.no j d)⟩
  have il : i < ρ.length := (List.getElem?_eq_some_iff.mp g.me).1
  have e : σ.set i (some (V.ref p)) = σ := by
    refine List.ext_getElem? fun j => ?_
    rw [List.getElem?_set]
    split
    · rename_i hij; subst hij
      rw [if_pos (by rw [g.at_.r.len]; exact il), h1]
    · rfl
  have := r.set (i := i) (lend_rp g.st)
  rw [e] at this
  exact ⟨lend_z g.at_.z g.st, g.at_.t, this⟩
end
section
variable {X : Cx} {T : List (Addr × Str)} {W : WX} {F0 G : Hp} {i : Nat}
theorem Mg.adr {K : PySem.W.Frag} {F H : Hp} {σ : L2.St} {ρ : Rho} {p q : Addr} {m m' : MSt} {S S' : List Addr} {F1 H1 : Hp} (g : Mg K T F0 G F H σ ρ i p m S) (e : ρ[i]? = some (En.z (.adr q))) : p = q := by
  rw [g.me] at e; cases e; rfl
end
end DN
namespace DN
open PySem PySem.Spec PyProof.Rows L2
open LamX (Tabs ExtN)

/-! ### the state is changed -/
def fset {α : Type} : List Str → List α → Str → α → List α
  | k :: ks, w :: ws, x, v => (if k = x then v else w) :: fset ks ws x v
  | _, ws, _, _ => ws
def fget {α : Type} : List Str → List α → Str → Option α
  | k :: ks, w :: ws, x => if k = x then some w else fget ks ws x
  | _, _, _ => none
theorem fset_out {α : Type} : ∀ (ks : List Str) (ws : List α) (x : Str) (v : α), x ∉ ks → fset ks ws x v = ws
  | [], _, _, _, _ => rfl
  | _ :: _, [], _, _, _ => rfl
  | k :: ks, w :: ws, x, v, h => by
    show (if k = x then v else w) :: fset ks ws x v = _
    rw [if_neg fun e => h (by rw [e]; exact List.mem_cons_self), fset_out ks ws x v fun e => h (List.mem_cons_of_mem _ e)]
section
variable {K : PySem.W.Frag} {T : List (Addr × Str)} {W : WX} {F0 G F H F1 H1 : Hp} {σ : L2.St} {ρ : Rho} {i : Nat} {p : Addr} {m m' : MSt} {S S' : List Addr} {Z : Ends}
theorem Flds.length {ws : List V} {ds : List D} (h : Flds K F H ws ds S) : ws.length = ds.length := by
  induction h with
  | nil => rfl
  | imm _ _ _ ih => rw [List.length_cons, List.length_cons, ih]
  | lst _ _ _ _ ih => rw [List.length_cons, List.length_cons, ih]
theorem soft_code {o : HO} {a : Addr} (h : (∃ xs, o = .lst xs) ∨ ∃ kvs, o = .dK kvs) : ∀ q, o ≠ LamX.CodeO a q := fun q z => by
  unfold LamX.CodeO at z
  rcases h with ⟨_, e⟩ | ⟨_, e⟩ <;> (rw [e] at z; cases z)
theorem Mg.put {q : Addr} {o' : HO} (g : Mg K T F0 G F H σ ρ i p m S) (hq : q ∈ S) (st : StAt K F (upd H q o') p m' S') (fr : Free G S') : Mg K T F0 G F (upd H q o') σ ρ i p m' S' := by
  obtain ⟨o, h1, h2⟩ := g.st.solid q hq
  have fq := g.st.out q hq
  have z1 : Fz F (upd H q o') := ⟨fun b u eb => by
    rw [upd_ne fun z => by rw [z, fq] at eb; cases eb]; exact g.at_.z.sub _ _ eb, g.at_.z.nt⟩
  refine ⟨⟨z1, tabs_updG g.at_.t h1 (soft_nt h2) (soft_code h2), ⟨g.at_.r.len, g.at_.r.z, fun j d e => absurd e (g.no j d), fun j k d e q1 q2 _ h => absurd h (g.no j d)⟩⟩, ⟨g.nx.f, z1, fun b u eb no => ?_, g.nx.new, fun t => tabs_updG (g.nx.tab t) h1 (soft_nt h2) (soft_code h2)⟩, g.no, g.me, st, fr⟩
  rw [upd_ne fun z => by
    subst z
    obtain ⟨ps, k⟩ := g.fr b hq u eb
    exact no ps k]
  exact g.nx.h _ _ eb no
end
section
variable {X : Cx} {T : List (Addr × Str)} {W : WX} {F0 G : Hp} {i : Nat}
end
end DN
namespace DN
open PySem PySem.Spec PyProof.Rows L2
open LamX (Tabs ExtN)

/-! ### a dict of text keys is read -/
section
variable {X : Cx} {T : List (Addr × Str)} {W : WX} {F0 G : Hp} {i : Nat}
/-! ### an own list of the state is changed -/
/-- the list of the field k -/
theorem Flds.at_ {K : PySem.W.Frag} {F H : Hp} {x : Str} {ws : List V} {ds : List D} {S : List Addr} (h : Flds K F H ws ds S) : S.Nodup → ∀ (ks : List Str), ks.Nodup → ∀ {es : List D}, fget ks ds x = some (.lst es) →
    ∃ a xs, fget ks ws x = some (.ref a) ∧ a ∈ S ∧ H a = some (.lst xs) ∧ RpAll K F xs es ∧ D.imms es = true ∧
      ∀ ys fs, RpAll K F ys fs → D.imms fs = true → Flds K F (upd H a (.lst ys)) ws (fset ks ds x (.lst fs)) S := by
  induction h with
  | nil => intro _ ks _ es e; cases ks <;> cases e
  | @imm v0 d0 vs ds S hi r0 h ih =>
    intro nd ks nk es e
    cases ks with
    | nil => cases e
    | cons k ks =>
      rw [List.nodup_cons] at nk
      have e : (if k = x then some d0 else fget ks ds x) = some (.lst es) := e
      by_cases hk : k = x
      · rw [if_pos hk] at e
        cases e
        unfold D.imm at hi; cases hi
      · rw [if_neg hk] at e
        obtain ⟨a, xs, h1, h2, h3, h4, h5, h6⟩ := ih nd ks nk.2 e
        refine ⟨a, xs, ?_, h2, h3, h4, h5, fun ys fs r hf => ?_⟩
        · show (if k = x then some v0 else fget ks vs x) = _
          rw [if_neg hk]; exact h1
        · show Flds K F _ _ ((if k = x then D.lst fs else d0) :: _) S
          rw [if_neg hk]
          exact .imm hi r0 (h6 ys fs r hf)
  | @lst a xs es0 vs ds S hx r0 hi h ih =>
    intro nd ks nk es e
    have nd' := List.nodup_cons.mp nd
    cases ks with
    | nil => cases e
    | cons k ks =>
      rw [List.nodup_cons] at nk
      have e : (if k = x then some (D.lst es0) else fget ks ds x) = some (.lst es) := e
      by_cases hk : k = x
      · rw [if_pos hk] at e
        cases e
        refine ⟨a, xs, ?_, List.mem_cons_self, hx, r0, hi, fun ys fs r hf => ?_⟩
        · show (if k = x then some (V.ref a) else fget ks vs x) = _
          rw [if_pos hk]
        · show Flds K F _ _ ((if k = x then D.lst fs else D.lst es0) :: fset ks ds x (.lst fs)) (a :: S)
          rw [if_pos hk, fset_out ks ds x _ (by rw [← hk]; exact nk.1)]
          exact .lst upd_same r hf (h.mono (Sub.refl F) fun b hb zs q => by rw [upd_ne fun z => nd'.1 (by rw [← z]; exact hb)]; exact q)
      · rw [if_neg hk] at e
        obtain ⟨b, zs, h1, h2, h3, h4, h5, h6⟩ := ih nd'.2 ks nk.2 e
        refine ⟨b, zs, ?_, List.mem_cons_of_mem _ h2, h3, h4, h5, fun ys fs r hf => ?_⟩
        · show (if k = x then some (V.ref a) else fget ks vs x) = _
          rw [if_neg hk]; exact h1
        · show Flds K F _ _ ((if k = x then D.lst fs else D.lst es0) :: _) (a :: S)
          rw [if_neg hk]
          exact .lst (by rw [upd_ne fun z => nd'.1 (by rw [z]; exact h2)]; exact hx) r0 hi (h6 ys fs r hf)
theorem StAt.at_ {K : PySem.W.Frag} {F H : Hp} {p : Addr} {m : MSt} {S : List Addr} {x : Str} {es : List D} (h : StAt K F H p m S) (e : fget m.1 m.2 x = some (.lst es)) :
    ∃ ws a xs, H p = some (.dK (kvK m.1 ws)) ∧ fget m.1 ws x = some (.ref a) ∧ a ∈ S ∧ H a = some (.lst xs) ∧ RpAll K F xs es ∧ D.imms es = true ∧
      ∀ ys fs, RpAll K F ys fs → D.imms fs = true → StAt K F (upd H a (.lst ys)) p (m.1, fset m.1 m.2 x (.lst fs)) S := by
  obtain ⟨ws, S0, rfl, h1, hl, h2⟩ := h.ex
  have nd := List.nodup_cons.mp h.nd
  obtain ⟨a, xs, k1, k2, k3, k4, k5, k6⟩ := h2.at_ nd.2 m.1 h.nk e
  refine ⟨ws, a, xs, h1, k1, List.mem_cons_of_mem _ k2, k3, k4, k5, fun ys fs r hf => ⟨⟨ws, S0, rfl, ?_, hl, k6 ys fs r hf⟩, h.nd, h.out, h.nk⟩⟩
  rw [upd_ne fun z => nd.1 (by rw [z]; exact k2)]; exact h1
end
end DN
namespace DN
open PySem PySem.Spec PyProof.Rows L2
open LamX (Tabs ExtN)

/-! ### procedures and makers -/
section
variable {K : PySem.W.Frag} {T : List (Addr × Str)} {W : WX} {F0 G F H F1 H1 : Hp} {σ : L2.St} {ρ : Rho} {i : Nat} {p : Addr} {m m' : MSt} {S S' : List Addr} {Z : Ends}
end
section
variable {X : Cx} {T : List (Addr × Str)} {W : WX} {F0 G : Hp} {i : Nat}
end
/-! a def whose body goes over to M-mode: for every address p -/
section
variable {P : Program} {w : World} {K : PySem.W.Frag} {mg : Str → Option Value} {base : Heap} {T : List (Addr × Str)} {k : Nat} {x qual : Str} {params : Arguments} {body : List Stmt} {scope : Scope} {kws : List (Str × V)} {f : Addr} {fd : FuncData} {N ps : List Str} {n i : Nat} {s : Rho → Addr → SM}
end
section
variable {X : Cx} {T : List (Addr × Str)} {W : WX} {F0 H0 : Hp} {i : Nat}
end
end DN
/-! M-mode: for, update, a state made by a display or by dict(pairs); own lists by +, * and by choice -/
namespace DN
open PySem PySem.Spec PyProof.Rows L2
open LamX (Tabs ExtN)

section
variable {X : Cx} {T : List (Addr × Str)} {W : WX} {F0 G : Hp} {i : Nat}
end
/-! ### own lists by + and *, and one of two -/
section
variable {X : Cx} {T : List (Addr × Str)} {W : WX} {F0 G : Hp} {i : Nat}
end
end DN
namespace DN
open PySem PySem.Spec PyProof.Rows L2
open LamX (Tabs ExtN)
section
variable {X : Cx} {T : List (Addr × Str)} {W : WX} {F0 G : Hp} {i : Nat}
theorem aftO.mono {K : PySem.W.Frag} {σ : L2.St} {F H F1 H1 : Hp} {Q : V → Hp → Prop} {r : Res D} (n : Nx T F H F1 H1) (h : aftO K T W σ F H Q r) : aftO K T W σ F1 H1 Q r := by
  cases r with
  | ok d =>
    cases d with
    | lst ds => exact fun p vs F' H' n2 hp hx rx fr => h p vs F' H' (n.trans n2) hp hx rx (back_tbl n.h fr)
    | _ => exact h
  | ex m => exact fun F' H' n2 => h F' H' (n.trans n2)
  | bad => exact h
end
end DN
/-! M-mode: the state's update; a state made by a display -/
namespace DN
open PySem PySem.Spec PyProof.Rows L2
open LamX (Tabs ExtN)
/-! ### a field put, there or not -/
section
variable {K : PySem.W.Frag} {T : List (Addr × Str)} {W : WX} {F0 G F H F1 H1 : Hp} {σ : L2.St} {ρ : Rho} {i : Nat} {p : Addr} {m m' : MSt} {S S' : List Addr} {Z : Ends}
theorem StAt.kvs (h : StAt K F H p m S) : ∃ ws, H p = some (.dK (kvK m.1 ws)) ∧ m.1.length = ws.length := by
  obtain ⟨ws, S0, _, h1, hl, _⟩ := h.ex
  exact ⟨ws, h1, hl⟩
theorem upd_upd {a : Addr} {o o' : HO} : upd (upd H a o) a o' = upd H a o' := by
  funext b
  by_cases e : b = a
  · subst e; rw [upd_same, upd_same]
  · rw [upd_ne e, upd_ne e, upd_ne e]
end
section
variable {X : Cx} {T : List (Addr × Str)} {W : WX} {F0 G : Hp} {i : Nat}
end
/-! ### a state made by a display -/
section
variable {X : Cx} {T : List (Addr × Str)} {W : WX} {F0 G : Hp} {i : Nat}
end
end DN
/-! list(zip(a, b)): every pair that was handed out is still held by the list -/
namespace DN
open PySem PySem.Spec PyProof.Rows L2
open LamX (Tabs ExtN)
namespace LZ
/-- a zip whose pair T is out -/
abbrev Out (h : Heap) (z TI TO T : Addr) (f : Bool) : Prop := h.get? z = some { cls := .type "zip", data := .fields #[rawInt T, .bool f, .bool false, .ref TI, .ref TO] }
section
variable {prog : Program} {w : World} {A : Around} {E : Value → Shared → Prop} {s : Shared} {z TI TO i1 i2 T : Addr} {fp1 fp2 : List Addr} {n1 n2 i : Nat} {P1 P2 : Nat → Value → Prop} {St1 St2 : Nat → Heap → Prop} {a1 a2 : Value} {f : Bool}
/-- the zip's look at its own pair: it is held elsewhere, and the zip marks that -/
theorem own_out {Q : Bool → Shared → Prop} (hz : Out s.heap z TI TO T f) (hT : ∃ o, s.heap.get? T = some o)
    (hQ : ∀ h', Out h' z TI TO T true → Heap.SameBut z s.heap h' → Q false { s with heap := h' }) : wpAny (model prog w) A (Builtin.SmallTypes.ownedTupleIsFree (.ref z)) Q E s :=
  hT.elim fun _ t => PySem.wpAny_tupleHeld_zip hz t hQ
theorem body_out {Q : PySem.Fin → Shared → Prop} (S : ZipSep2 z TI TO i1 i2 fp1 fp2) (D1 : Draws prog w A i1 fp1 n1 P1 St1) (D2 : Draws prog w A i2 fp2 n2 P2 St2) (hz : Out s.heap z TI TO T f) (hT : ∃ o, s.heap.get? T = some o) (hI : IsTupOf2 s.heap TI (.ref i1) (.ref i2)) (st1 : St1 i s.heap) (st2 : St2 i s.heap) (l1 : i < n1) (l2 : i < n2)
    (hQ : ∀ x1 x2 h' tk, P1 i x1 → P2 i x2 → Out h' z TI TO T true → St1 (i + 1) h' → St2 (i + 1) h' → IsTupOf2 h' s.heap.objs.size x1 x2 → (∀ c o, c ≠ z → c ≠ i1 → c ≠ i2 → s.heap.get? c = some o → h'.get? c = some o) → Q (.done (.ret (.ref s.heap.objs.size))) { s with heap := h', toks := tk }) :
    wpAny (model prog w) A (Builtin.«zip.__next__» ⟨[.ref z], []⟩) Q E s := by
  have f2 : ∀ {R : Value → Shared → Prop}, R (.bool false) s → wpAny (model prog w) A (field (.ref z) 2) R E s := fun q => wpAny_field hz rfl rfl q
  have f3 : ∀ {R : Value → Shared → Prop}, R (.ref TI) s → wpAny (model prog w) A (field (.ref z) 3) R E s := fun q => wpAny_field hz rfl rfl q
  unfold Builtin.«zip.__next__»
  wp_walk using f2, f3, wpAny_seqItems hI rfl, own_out hz hT
  intro g0 hz0 b0
  have k1 := D1.over st1 b0 S.zf1
  have k2 := D2.over st2 b0 S.zf2
  have d1 : ∀ {R : Value → Shared → Prop}, (∀ x h' tk, P1 i x → St1 (i + 1) h' → Heap.SameBut i1 g0 h' → R x { s with heap := h', toks := tk }) → wpAny (model prog w) A (Builtin.SmallTypes.nextOf (.ref i1)) R E { s with heap := g0 } := fun k => D1.item i { s with heap := g0 } _ E l1 k1 k
  have d2 : ∀ {R : Value → Shared → Prop} (h : Heap) (tk : Nat), St2 i h → (∀ x h' tk, P2 i x → St2 (i + 1) h' → Heap.SameBut i2 h h' → R x { s with heap := h', toks := tk }) → wpAny (model prog w) A (Builtin.SmallTypes.nextOf (.ref i2)) R E { s with heap := h, toks := tk } :=
    fun h tk k2 k => D2.item i { s with heap := h, toks := tk } _ E l2 k2 k
  simp only [Bool.false_eq_true, if_false, ← Array.forIn_toList, List.forIn_cons, List.forIn_nil]
  wp_walk using d1
  intro x1 g1 t1 y1 m1 b1
  wp_walk using d2 g1 t1 (D2.over k2 b1 S.sep1_2)
  intro x2 g2 t2 y2 m2 b2
  wp_walk using wpAny_newTuple
  case hsz => exact (by decide : 2 ≤ sizeLine)
  have size : g2.objs.size = s.heap.objs.size := b2.1.trans (b1.1.trans b0.1)
  have still : ∀ c o, c ≠ i1 → c ≠ i2 → g0.get? c = some o → (g2.push { cls := .type "tuple", data := .seq #[x1, x2] }).get? c = some o := fun c o c1 c2 e => Heap.get?_push_of_some _ (b2.extBut _ _ c2 (b1.extBut _ _ c1 e))
  have made := Heap.get?_push_size g2 (o := { cls := .type "tuple", data := .seq #[x1, x2] }) rfl
  show Q (.done (.ret (.ref g2.objs.size))) _
  rw [size] at made ⊢
  exact hQ x1 x2 _ t2 y1 y2 (still _ _ S.zi1 S.zi2 hz0) (D1.frame _ _ _ (D1.over m1 b2 S.sep2_1) fun _ _ _ => Heap.get?_push_of_some _) (D2.frame _ _ _ m2 fun _ _ _ => Heap.get?_push_of_some _) made fun c o c0 c1 c2 e => still c o c1 c2 (b0.extBut _ _ c0 e)
/-- one more pair -/
theorem next_out {Q : Option Value → Shared → Prop} (S : ZipSep2 z TI TO i1 i2 fp1 fp2) (D1 : Draws prog w A.in1 i1 fp1 n1 P1 St1) (D2 : Draws prog w A.in1 i2 fp2 n2 P2 St2) (hz : Out s.heap z TI TO T f) (hT : ∃ o, s.heap.get? T = some o) (hI : IsTupOf2 s.heap TI (.ref i1) (.ref i2)) (st1 : St1 i s.heap) (st2 : St2 i s.heap) (l1 : i < n1) (l2 : i < n2)
    (hQ : ∀ x1 x2 h' tk, P1 i x1 → P2 i x2 → Out h' z TI TO T true → St1 (i + 1) h' → St2 (i + 1) h' → IsTupOf2 h' s.heap.objs.size x1 x2 → (∀ c o, c ≠ z → c ≠ i1 → c ≠ i2 → s.heap.get? c = some o → h'.get? c = some o) → Q (some (.ref s.heap.objs.size)) { s with heap := h', toks := tk }) :
    wpAny (model prog w) A (pyNext (.ref z)) Q E s := by
  have ty : s.TypeIs (.ref z) "zip" := ⟨_, hz, rfl⟩
  unfold pyNext
  refine wpAny_bind (wpAny_attempt (wpAny_callSpecial?_slot (name := Str.ofString "__next__") ty F.slot_zip_next (wpAny_call_entry F.slot_zip_next ty F.entry_zip_next
    (body_out S D1 D2 hz hT hI st1 st2 l1 l2 fun x1 x2 h' tk p1 p2 o m1 m2 t k => ⟨_, rfl, wpAny_pure (hQ x1 x2 h' tk p1 p2 o m1 m2 t k)⟩) (F.args_zip_next_1 _))))
/-- one of the two is at its end: the zip hands its end on -/
theorem body_end {Q : PySem.Fin → Shared → Prop} (S : ZipSep2 z TI TO i1 i2 fp1 fp2) (D1 : Draws prog w A i1 fp1 n1 P1 St1) (D2 : Draws prog w A i2 fp2 n2 P2 St2) (hz : Out s.heap z TI TO T f) (hT : ∃ o, s.heap.get? T = some o) (hI : IsTupOf2 s.heap TI (.ref i1) (.ref i2)) (st1 : St1 i s.heap) (st2 : St2 i s.heap) (l1 : i ≤ n1) (l2 : i ≤ n2) (le : i = n1 ∨ i = n2)
    (hE : ∀ (e : Addr) h' tk, (∃ o, h'.get? e = some o ∧ o.cls = .type "StopIteration") → (∀ c o, c ≠ z → c ≠ i1 → c ≠ i2 → s.heap.get? c = some o → h'.get? c = some o) → E (.ref e) { s with heap := h', toks := tk }) :
    wpAny (model prog w) A (Builtin.«zip.__next__» ⟨[.ref z], []⟩) Q E s := by
  have f2 : ∀ {R : Value → Shared → Prop}, R (.bool false) s → wpAny (model prog w) A (field (.ref z) 2) R E s := fun q => wpAny_field hz rfl rfl q
  have f3 : ∀ {R : Value → Shared → Prop}, R (.ref TI) s → wpAny (model prog w) A (field (.ref z) 3) R E s := fun q => wpAny_field hz rfl rfl q
  unfold Builtin.«zip.__next__»
  wp_walk using f2, f3, wpAny_seqItems hI rfl, own_out hz hT
  intro g0 hz0 b0
  have k1 := D1.over st1 b0 S.zf1
  have k2 := D2.over st2 b0 S.zf2
  simp only [Bool.false_eq_true, if_false, ← Array.forIn_toList, List.forIn_cons, List.forIn_nil]
  by_cases last : i = n1
  · have d1 : ∀ {R : Value → Shared → Prop}, wpAny (model prog w) A (Builtin.SmallTypes.nextOf (.ref i1)) R E { s with heap := g0 } :=
      fun {R} => D1.done { s with heap := g0 } R E (last ▸ k1) fun h' e b x => hE e h' s.toks x fun c o c0 c1 _ y => b _ _ c1 (b0.extBut _ _ c0 y)
    wp_walk using d1
  · have d1 : ∀ {R : Value → Shared → Prop}, (∀ x h' tk, P1 i x → St1 (i + 1) h' → Heap.SameBut i1 g0 h' → R x { s with heap := h', toks := tk }) → wpAny (model prog w) A (Builtin.SmallTypes.nextOf (.ref i1)) R E { s with heap := g0 } :=
      fun k => D1.item i { s with heap := g0 } _ E (by omega) k1 k
    wp_walk using d1
    intro x1 g1 t1 y1 m1 b1
    have d2 : ∀ {R : Value → Shared → Prop}, wpAny (model prog w) A (Builtin.SmallTypes.nextOf (.ref i2)) R E { s with heap := g1, toks := t1 } :=
      fun {R} => D2.done { s with heap := g1, toks := t1 } R E (le.resolve_left last ▸ D2.over k2 b1 S.sep1_2) fun h' e b x => hE e h' t1 x fun c o c0 c1 c2 y => b _ _ c2 (b1.extBut _ _ c1 (b0.extBut _ _ c0 y))
    wp_walk using d2
theorem end_out {Q : Option Value → Shared → Prop} (S : ZipSep2 z TI TO i1 i2 fp1 fp2) (D1 : Draws prog w A.in1 i1 fp1 n1 P1 St1) (D2 : Draws prog w A.in1 i2 fp2 n2 P2 St2) (hz : Out s.heap z TI TO T f) (hT : ∃ o, s.heap.get? T = some o) (hI : IsTupOf2 s.heap TI (.ref i1) (.ref i2)) (st1 : St1 i s.heap) (st2 : St2 i s.heap) (l1 : i ≤ n1) (l2 : i ≤ n2) (le : i = n1 ∨ i = n2)
    (hQ : ∀ h' tk, (∀ c o, c ≠ z → c ≠ i1 → c ≠ i2 → s.heap.get? c = some o → h'.get? c = some o) → Q none { s with heap := h', toks := tk }) :
    wpAny (model prog w) A (pyNext (.ref z)) Q E s := by
  have ty : s.TypeIs (.ref z) "zip" := ⟨_, hz, rfl⟩
  unfold pyNext
  refine wpAny_bind (wpAny_attempt (wpAny_callSpecial?_slot (name := Str.ofString "__next__") ty F.slot_zip_next (wpAny_call_entry F.slot_zip_next ty F.entry_zip_next
    (body_end S D1 D2 hz hT hI st1 st2 l1 l2 le fun e h' tk ⟨o, ho, hc⟩ k => ?_) (F.args_zip_next_1 _))))
  exact wpAny_bind (wpAny_isInstance (T := "StopIteration") (b := true) ⟨o, ho, hc⟩ isSubtype_stop (wpAny_pure (hQ h' tk k)))
/-- behind i pairs, which stand at as -/
structure At (z TI TO i1 i2 lo : Addr) (P1 P2 : Nat → Value → Prop) (St1 St2 : Nat → Heap → Prop) (h : Heap) (i : Nat) (as : List Addr) : Prop where
  own : (i = 0 ∧ IsZip h z TI TO .none ∧ ∃ a b, IsTupOf2 h TO a b) ∨ ∃ T f, Out h z TI TO T f ∧ T ∈ as
  ti : IsTupOf2 h TI (.ref i1) (.ref i2)
  s1 : St1 i h
  s2 : St2 i h
  len : as.length = i
  up : as.Pairwise (· < ·)
  lo_le : lo ≤ h.objs.size
  new : ∀ a ∈ as, lo ≤ a
  two : ∀ j a, as[j]? = some a → ∃ x y, IsTupOf2 h a x y ∧ P1 j x ∧ P2 j y
/-- how the cells lie -/
structure Far (z TI TO i1 i2 lo L : Addr) (fp1 fp2 : List Addr) : Prop where
  sep : ZipSep2 z TI TO i1 i2 fp1 fp2
  hz : z < lo
  hti : TI < lo
  hto : TO < lo
  ha : i1 < lo
  hb : i2 < lo
  hl : L < lo
  lz : L ≠ z
  lt : L ≠ TI
  lo_ : L ≠ TO
  l1 : L ∉ fp1
  l2 : L ∉ fp2
theorem At.grow {lo L : Addr} {h h1 h2 : Heap} {as : List Addr} {x y : Value} {T' : Addr} {f' : Bool} (fr : Far z TI TO i1 i2 lo L fp1 fp2) (D1 : Draws prog w A i1 fp1 n1 P1 St1) (D2 : Draws prog w A i2 fp2 n2 P2 St2) (g : At z TI TO i1 i2 lo P1 P2 St1 St2 h i as)
    (k1 : ∀ c o, c ≠ z → c ≠ TO → c ≠ i1 → c ≠ i2 → h.get? c = some o → h1.get? c = some o) (t : IsTupOf2 h1 h.objs.size x y) (o1 : Out h1 z TI TO T' f') (hT' : T' ∈ as ++ [h.objs.size]) (m1 : St1 (i + 1) h1) (m2 : St2 (i + 1) h1) (p1 : P1 i x) (p2 : P2 i y)
    (k2 : ∀ c o, c ≠ L → h1.get? c = some o → h2.get? c = some o) (sz : h1.objs.size ≤ h2.objs.size) : At z TI TO i1 i2 lo P1 P2 St1 St2 h2 (i + 1) (as ++ [h.objs.size]) := by
  have far : ∀ c, lo ≤ c → c ≠ z ∧ c ≠ TO ∧ c ≠ i1 ∧ c ≠ i2 ∧ c ≠ L := fun c hc => ⟨Nat.ne_of_gt (Nat.lt_of_lt_of_le fr.hz hc), Nat.ne_of_gt (Nat.lt_of_lt_of_le fr.hto hc), Nat.ne_of_gt (Nat.lt_of_lt_of_le fr.ha hc), Nat.ne_of_gt (Nat.lt_of_lt_of_le fr.hb hc), Nat.ne_of_gt (Nat.lt_of_lt_of_le fr.hl hc)⟩
  have t2 : IsTupOf2 h2 h.objs.size x y := k2 _ _ (far _ g.lo_le).2.2.2.2 t
  refine ⟨.inr ⟨T', f', k2 _ _ fr.lz.symm o1, hT'⟩, k2 _ _ fr.lt.symm (k1 _ _ fr.sep.TIz fr.sep.TITO fr.sep.TIi1 fr.sep.TIi2 g.ti), D1.frame _ _ _ m1 fun b hb o e => k2 b o (fun q => fr.l1 (q ▸ hb)) e, D2.frame _ _ _ m2 fun b hb o e => k2 b o (fun q => fr.l2 (q ▸ hb)) e, by rw [List.length_append, g.len]; rfl, ?_, ?_, fun a ha => ?_, fun j a hj => ?_⟩
  · refine List.pairwise_append.mpr ⟨g.up, by simp, fun a ha b hb => ?_⟩
    simp at hb
    subst hb
    obtain ⟨j, hj⟩ := List.mem_iff_getElem?.mp ha
    obtain ⟨x, y, q, _⟩ := g.two j a hj
    exact Heap.lt_size q
  · exact Nat.le_trans (Nat.le_of_lt (Nat.lt_of_le_of_lt g.lo_le (Heap.lt_size t))) sz
  · rcases List.mem_append.mp ha with q | q
    · exact g.new a q
    · simp at q; subst q; exact g.lo_le
  · rw [List.getElem?_append] at hj
    split at hj
    · obtain ⟨x', y', q, r⟩ := g.two j a hj
      obtain ⟨c1, c2, c3, c4, c5⟩ := far a (g.new a (List.mem_of_getElem? hj))
      exact ⟨x', y', k2 _ _ c5 (k1 _ _ c1 c2 c3 c4 q), r⟩
    · rename_i hge
      rw [g.len] at hge hj
      have hji : j = i := by
        have := (List.getElem?_eq_some_iff.mp hj).1
        simp at this
        omega
      subst hji
      rw [Nat.sub_self] at hj
      cases hj
      exact ⟨x, y, t2, p1, p2⟩
abbrev lst (xs : List Value) (c : Nat) : Obj := { cls := .type "list", dict := none, data := .seq xs.toArray c, slots := #[] }
theorem loop {R : Result → Shared → Prop} {lo L : Addr} {res : Value} (fr : Far z TI TO i1 i2 lo L fp1 fp2) (D1 : Draws prog w A.in1.in1 i1 fp1 n1 P1 St1) (D2 : Draws prog w A.in1.in1 i2 fp2 n2 P2 St2) (hn : min n1 n2 ≤ sizeLine) :
    ∀ (k i : Nat) (s : Shared) (as : List Addr) (c : Nat), i + k = min n1 n2 → At z TI TO i1 i2 lo P1 P2 St1 St2 s.heap i as → s.heap.get? L = some (lst (as.map .ref) c) →
      (∀ (h' : Heap) (tk : Nat) (bs : List Addr) (c' : Nat), (∀ b o, b < lo → b ≠ z → b ≠ TO → b ≠ i1 → b ≠ i2 → b ≠ L → s.heap.get? b = some o → h'.get? b = some o) → h'.get? L = some (lst (bs.map .ref) c') → bs.length = min n1 n2 → bs.Pairwise (· < ·) → (∀ a ∈ bs, lo ≤ a) →
        (∀ j a, bs[j]? = some a → ∃ x y, IsTupOf2 h' a x y ∧ P1 j x ∧ P2 j y) → R (.ok (.ret res)) { s with heap := h', toks := tk }) →
      codeAny (model prog w) A (.builtin "list.extend.loop" ⟨[.ref L, .ref z, res], []⟩) R s := by
  intro k
  induction k with
  | zero =>
    intro i s as c hk g hL hR
    refine codeAny_builtin F.entry_extend_loop ?_
    rw [Around.under_plainId F.plain_extend_loop _]
    show wpAny _ A.in1 (pyNext (.ref z) >>= _) _ _ s
    have le : i = n1 ∨ i = n2 := by omega
    have fin : ∀ h' tk, (∀ c o, c ≠ z → c ≠ TO → c ≠ i1 → c ≠ i2 → s.heap.get? c = some o → h'.get? c = some o) → R (.ok (.ret res)) { s with heap := h', toks := tk } := fun h' tk kp => by
      refine hR h' tk as c (fun b o _ c1 c2 c3 c4 _ e => kp b o c1 c2 c3 c4 e) (kp _ _ fr.lz fr.lo_ (fun q => fr.l1 (q ▸ fr.sep.mem1)) (fun q => fr.l2 (q ▸ fr.sep.mem2)) hL) (by rw [g.len]; exact hk) g.up g.new fun j a hj => ?_
      obtain ⟨x, y, q, r⟩ := g.two j a hj
      have la := g.new a (List.mem_of_getElem? hj)
      exact ⟨x, y, kp _ _ (Nat.ne_of_gt (Nat.lt_of_lt_of_le fr.hz la)) (Nat.ne_of_gt (Nat.lt_of_lt_of_le fr.hto la)) (Nat.ne_of_gt (Nat.lt_of_lt_of_le fr.ha la)) (Nat.ne_of_gt (Nat.lt_of_lt_of_le fr.hb la)) q, r⟩
    rcases g.own with ⟨_, hz, a, b, ho⟩ | ⟨T, f, hz, hT⟩
    · exact wpAny_bind (wpAny_pyNext_zipD2_end fr.sep D1 D2 hz g.ti ho g.s1 g.s2 (by omega) (by omega) le fun h' tk kp => wpAny_pure (fin h' tk kp))
    · obtain ⟨j, hj⟩ := List.mem_iff_getElem?.mp hT
      obtain ⟨x, y, q, _⟩ := g.two j T hj
      exact wpAny_bind (end_out fr.sep D1 D2 hz ⟨_, q⟩ g.ti g.s1 g.s2 (by omega) (by omega) le fun h' tk kp => wpAny_pure (fin h' tk fun c o c1 _ c3 c4 e => kp c o c1 c3 c4 e))
  | succ k ih =>
    intro i s as c hk g hL hR
    refine codeAny_builtin F.entry_extend_loop ?_
    rw [Around.under_plainId F.plain_extend_loop _]
    show wpAny _ A.in1 (pyNext (.ref z) >>= _) _ _ s
    have go : ∀ (x y : Value) (h1 : Heap) (tk : Nat) (T' : Addr) (f' : Bool), P1 i x → P2 i y → Out h1 z TI TO T' f' → T' ∈ as ++ [s.heap.objs.size] → St1 (i + 1) h1 → St2 (i + 1) h1 → IsTupOf2 h1 s.heap.objs.size x y → (∀ c o, c ≠ z → c ≠ TO → c ≠ i1 → c ≠ i2 → s.heap.get? c = some o → h1.get? c = some o) →
        wpAny (model prog w) A.in1 (updateSeq L (·.push (.ref s.heap.objs.size)) >>= fun _ => again (.builtin "list.extend.loop" ⟨[.ref L, .ref z, res], []⟩))
          (fun fin s' => match fin with | .done f => R (.ok f) s' | .again c' => c'.quiet = true ∧ codeAny (model prog w) A c' R s') (fun e s' => R (.error e) s') { s with heap := h1, toks := tk } := fun x y h1 tk T' f' p1 p2 o1 hT' m1 m2 t kp => by
      have hL1 : h1.get? L = some (lst (as.map .ref) c) := kp _ _ fr.lz fr.lo_ (fun q => fr.l1 (q ▸ fr.sep.mem1)) (fun q => fr.l2 (q ▸ fr.sep.mem2)) hL
      have la : (as.map Value.ref).toArray.size = i := by rw [List.size_toArray, List.length_map, g.len]
      have g2 := g.grow (h2 := h1.update L (Obj.mapSeq (·.push (.ref s.heap.objs.size)))) fr D1 D2 kp t o1 hT' m1 m2 p1 p2 (fun c o hc e => (Heap.get?_update_other _ _ (Ne.symm hc)).trans e) (Nat.le_of_eq (Heap.SameBut.update ..).1.symm)
      refine wpAny_bind (wpAny_updateSeq hL1 rfl (wpAny_pure ⟨plainId_quiet F.plain_extend_loop _, ih (i + 1) _ (as ++ [s.heap.objs.size]) (c + 1) (by omega) g2 ?_ fun h' tk' bs c' q1 q2 q3 q4 q5 q6 => ?_⟩) (by rw [la]; omega) (by rw [Array.size_push, la]; omega))
      · have := Heap.get?_update_self (Obj.mapSeq (·.push (Value.ref s.heap.objs.size))) hL1 rfl
        rw [this]
        simp [Obj.mapSeq]
      · refine hR h' tk' bs c' (fun b o b0 b1 b2 b3 b4 b5 e => q1 b o b0 b1 b2 b3 b4 b5 ((Heap.get?_update_other _ _ (Ne.symm b5)).trans (kp b o b1 b2 b3 b4 e))) q2 q3 q4 q5 q6
    rcases g.own with ⟨i0, hz, a, b, ho⟩ | ⟨T, f, hz, hT⟩
    · exact wpAny_bind (wpAny_pyNext_zipD2_item fr.sep D1 D2 hz g.ti ho g.s1 g.s2 (by omega) (by omega) fun x y h1 tk p1 p2 o1 _ m1 m2 t _ kp => go x y h1 tk _ false p1 p2 o1 (by simp) m1 m2 t kp)
    · obtain ⟨j, hj⟩ := List.mem_iff_getElem?.mp hT
      obtain ⟨x, y, q, _⟩ := g.two j T hj
      exact wpAny_bind (next_out fr.sep D1 D2 hz ⟨_, q⟩ g.ti g.s1 g.s2 (by omega) (by omega) fun x y h1 tk p1 p2 o1 m1 m2 t kp => go x y h1 tk _ true p1 p2 o1 (List.mem_append_left _ hT) m1 m2 t fun c o c1 _ c3 c4 e => kp c o c1 c3 c4 e)
/-- a list's cell is written twice and stands as before -/
theorem touch {L : Addr} {xs : List Value} {c : Nat} {Q : Unit → Shared → Prop} (hL : s.heap.get? L = some (lst xs c)) (hx : xs.length + 1 ≤ sizeLine) (hQ : ∀ h' c', h'.get? L = some (lst xs c') → Heap.SameBut L s.heap h' → Q () { s with heap := h' }) : wpAny (model prog w) A (Builtin.List.listTouch (.ref L)) Q E s := by
  show wpAny _ _ (updateSeq L (·.push .none) >>= fun _ => updateSeq L (·.pop)) _ _ s
  refine wpAny_bind (wpAny_updateSeq hL rfl ?_ (by rw [List.size_toArray]; omega) (by rw [Array.size_push, List.size_toArray]; omega))
  have h1 := Heap.get?_update_self (Obj.mapSeq (·.push Value.none)) hL rfl
  have e1 : Obj.mapSeq (·.push Value.none) (lst xs c) = lst (xs ++ [.none]) (c + 1) := by simp [Obj.mapSeq]
  rw [e1] at h1
  refine wpAny_updateSeq h1 rfl (hQ _ (c + 2) ?_ ⟨(Heap.SameBut.update ..).1.trans (Heap.SameBut.update ..).1, fun b hb => ?_⟩) (by rw [List.size_toArray, List.length_append]; simp; omega) (by rw [Array.size_pop, List.size_toArray, List.length_append]; simp; omega)
  · rw [Heap.get?_update_self (Obj.mapSeq (·.pop)) h1 rfl]
    simp [Obj.mapSeq]
  · rw [Heap.get?_update_other _ _ (Ne.symm hb), Heap.get?_update_other _ _ (Ne.symm hb)]
end
end LZ
end DN
/-! list(zip(a, b)) and dict(pairs) by data -/
namespace DN
open PySem PySem.Spec PyProof.Rows L2
open LamX (Tabs ExtN)
section
variable {X : Cx} {T : List (Addr × Str)} {W : WX}
def Pr (H : Hp) : List Addr → List (V × V) → Prop := Paired fun t q => H t = some (.tup [q.1, q.2])
end
/-! ### by data -/
theorem Nx.many {T : List (Addr × Str)} {F H H' : Hp} {N : List Addr} (z : Fz F H) (kp : ∀ b o, H b = some o → H' b = some o) (hn : ∀ a ∈ N, H a = none) (hs : ∀ a ∈ N, ∃ o, H' a = some o ∧ ∀ ps, o ≠ .tbl ps) : Nx T F H (fun a => if a ∈ N then H' a else F a) H' := by
  refine ⟨fun a o e => ?_, ⟨fun a o e => ?_, fun a ps e => ?_⟩, fun b u e _ => kp b u e, fun a o e => ?_, fun t => t.ext fun b u e => kp b u e⟩
  · have : a ∉ N := fun q => by have := z.sub _ _ e; rw [hn a q] at this; cases this
    show (if a ∈ N then H' a else F a) = some o
    rw [if_neg this]; exact e
  · have e : (if a ∈ N then H' a else F a) = some o := e
    split at e
    · exact e
    · exact kp _ _ (z.sub _ _ e)
  · have e : (if a ∈ N then H' a else F a) = some (.tbl ps) := e
    split at e
    · rename_i q
      obtain ⟨o, h1, h2⟩ := hs a q
      rw [h1] at e
      exact h2 ps (Option.some.inj e)
    · exact z.nt _ _ e
  · have e : (if a ∈ N then H' a else F a) = some o := e
    split at e
    · rename_i q
      exact .inr fun o' e' => by rw [hn a q] at e'; cases e'
    · exact .inl e
theorem Pr.all {H' : Hp} : ∀ {ts : List Addr} {qs : List (V × V)}, Pr H' ts qs → ∀ t ∈ ts, ∃ vs, H' t = some (.tup vs)
  | _, _, .nil, t, h => by cases h
  | _, _, .cons h1 h2, t, h => by
    rcases List.mem_cons.mp h with e | e
    · rw [e]; exact ⟨_, h1⟩
    · exact Pr.all h2 t e
section
variable {X : Cx} {T : List (Addr × Str)} {W : WX} {F0 G : Hp} {i : Nat}
end
/-! ### dict(pairs) -/
section
variable {X : Cx} {T : List (Addr × Str)} {W : WX} {F0 G : Hp} {i : Nat}
end
end DN
/-! M-mode where a token is out -/
namespace DN
open PySem PySem.Spec PyProof.Rows L2
open LamX (Tabs ExtN)
section
variable {X : Cx} {T : List (Addr × Str)} {W : WX} {F0 G : Hp} {i : Nat}
end
/-! x = e (lent), then f(state, .. x ..) -/
section
variable {X : Cx} {T : List (Addr × Str)} {W : WX} {F0 G : Hp} {i : Nat}
end
end DN
/-! a law whose body goes over to M-mode; evaluating M-mode -/
namespace DN
open PySem PySem.Spec PyProof.Rows L2
open LamX (Tabs ExtN)
/-! ### evaluating -/
section
variable {i n : Nat} {ρ : Rho} {m : MSt} {p : Addr}
end
end DN
/-! a tuple taken once, or not at all -/
namespace DN
open PySem PySem.Spec PyProof.Rows L2
open LamX (Tabs ExtN)
section
variable {X : Cx} {T : List (Addr × Str)} {W : WX}
end
end DN
/-! enumerate of a tuple -/
namespace DN
open PySem PySem.Spec PyProof.Rows L2
/-! .. as data -/
open LamX (Tabs ExtN)
section
variable {X : Cx} {T : List (Addr × Str)} {W : WX}
end
end DN
/-! a lambda with one parameter, handed to a def: within the call it belongs to the base -/
namespace DN
open PySem PySem.Spec PyProof.Rows L2
open LamX (Tabs ExtN CodeO TabB)
open NdefX (NF NScope CellsAt Caps envF ncx startF)

/-! ### a part of a heap -/
open Classical in
noncomputable def only (h : Heap) (S : Addr → Prop) : Heap := ⟨h.objs.mapIdx fun i o => if S i then o else { o with data := .freed }, h.life⟩
/-! ### less is frozen -/
def Most (F G : Hp) : Prop := ∀ a o, F a = some o → (∀ φ, o ≠ .ext φ) → G a = some o
theorem Most.rd {F G : Hp} (m : Most F G) {a : Addr} {u : HO} (hu : ∀ φ, u ≠ .ext φ) (h : Rd F a u) : Rd G a u := by
  rcases h with h | ⟨o, h⟩
  · exact .inl (m _ _ h hu)
  · exact .inr ⟨o, m _ _ h fun φ z => by cases z⟩
mutual
theorem Rp.less {K : PySem.W.Frag} {F G : Hp} (m : Most F G) : ∀ {v : V} {d : D}, Rp K F v d → Rp K G v d
  | _, _, .non => .non
  | _, _, .bl b => .bl b
  | _, _, .int i => .int i
  | _, _, .str x => .str x
  | _, _, .fn x => .fn x
  | _, _, .ty n => .ty n
  | _, _, .lst h t => .lst (m _ _ h fun φ z => by cases z) (RpAll.less m t)
  | _, _, .tup h t => .tup (h.elim (fun h => .inl (m.rd (fun φ z => by cases z) h)) .inr) (RpAll.less m t)
  | _, _, .dK h => .dK (m _ _ h fun φ z => by cases z)
  | _, _, .dT ⟨od, h⟩ => .dT ⟨od, m _ _ h fun φ z => by cases z⟩
  | _, _, .arr h => .arr (h.elim (fun h => .inl (m.rd (fun φ z => by cases z) h)) .inr)
  | _, _, .pro ⟨o, h1, h2, h3⟩ => .pro ⟨o, h1, h2, m _ _ h3 fun φ z => by cases z⟩
  | _, _, .adr a => .adr a
  | _, _, .tab h1 h2 h3 t => .tab h1 (m _ _ h2 fun φ z => by cases z) h3 (RpAll.less m t)
  | _, _, .pw h => .pw (m _ _ h fun φ z => by cases z)
  | _, _, .frm ⟨o, h1, h2, h3⟩ t => .frm ⟨o, h1, h2, m _ _ h3 fun φ z => by cases z⟩ (RpAll.less m t)
theorem RpAll.less {K : PySem.W.Frag} {F G : Hp} (m : Most F G) : ∀ {vs : List V} {ds : List D}, RpAll K F vs ds → RpAll K G vs ds
  | _, _, .nil => .nil
  | _, _, .cons h t => .cons (Rp.less m h) (RpAll.less m t)
end
/-! ### the lambda in the base -/
structure LamB (base : Heap) (f c : Addr) (q : Str) (params : Arguments) (body : Expr) (scope : Scope) (cl : List (Str × Addr)) (y : Str) (n : Int) : Prop where
  fn : ∃ pm ctv, base.get? f = some (PySem.W.kla_obj "<lambda>" q params body scope cl pm c ctv)
  code : base.CodeRec (.ref c) q
  cells : ∀ z a, cl.lookup z = some a → ∃ v, base.IsCell a v
  inj : ∀ z z' a, cl.lookup z = some a → cl.lookup z' = some a → z = z'
  val : ∃ a t, cl.lookup y = some a ∧ base.IsCell a (some (.int n t))
theorem LamB.at {base h : Heap} {H : Hp} {f c : Addr} {q : Str} {params : Arguments} {body : Expr} {scope : Scope} {cl : List (Str × Addr)} {y : Str} {n : Int} (B : LamB base f c q params body scope cl y n) (k : ∀ b o, base.get? b = some o → h.get? b = some o ∧ H b = none) :
    CellsAt cl [y] [some (.int n)] h H := by
  refine ⟨rfl, fun z a e => ?_, B.inj, fun i z e => ?_⟩
  · obtain ⟨v, o, ho, hd⟩ := B.cells z a e
    exact ⟨(k _ _ ho).2, v, o, (k _ _ ho).1, hd⟩
  · cases i with
    | zero =>
      cases e
      obtain ⟨a, t, e1, o, ho, hd⟩ := B.val
      refine ⟨a, e1, fun v hv => ?_⟩
      cases hv
      exact ⟨.int n t, ⟨t, rfl⟩, o, (k _ _ ho).1, hd⟩
    | succ i => simp at e
/-! ### the call that hands it over -/
/-- .. shown again -/
def shown (H1 H' : Hp) (c P : Addr) : Hp := fun b => if b = c ∨ b = P then H1 b else H' b
def both (F F' : Hp) : Hp := fun b => match F b with
  | some o => some o
  | none => F' b
section
variable {K : PySem.W.Frag} {P0 : Program} {w : World} {q : Str} {F H H1 H' F' : Hp} {c P : Addr} {h h' : Heap}
end
end DN
/-! R-mode: one slot holds a reader (an instance with the fields text, at), which calls change -/
namespace DN
open PySem PySem.Spec PyProof.Rows L2
open LamX (Tabs ExtN)

abbrev RSt := Str × Int
inductive RR (α : Type) where
  | ok (a : α) (m : RSt) | ex (n : Str) | bad
def RR.bind {α β : Type} : RR α → (α → RSt → RR β) → RR β
  | .ok a m, f => f a m
  | .ex n, _ => .ex n
  | .bad, _ => .bad
def rdO (K : PySem.W.Frag) (dx : Addr) (m : RSt) : HO := .ins (He.ga K "Reader") dx [("text", .str m.1), ("at", .int m.2)]
def RdAt (K : PySem.W.Frag) (H : Hp) (p : Addr) (m : RSt) : Prop := ∃ dx, H p = some (rdO K dx m)
theorem rdO_nt {K : PySem.W.Frag} {dx : Addr} {m : RSt} : ∀ ps, rdO K dx m ≠ .tbl ps := fun ps z => by unfold rdO at z; cases z
theorem rdO_tup {K : PySem.W.Frag} {dx : Addr} {m : RSt} : ∀ xs, rdO K dx m ≠ .tup xs := fun ps z => by unfold rdO at z; cases z
/-- H without p -/
def mask (H : Hp) (p : Addr) : Hp := fun b => if b = p then none else H b
theorem mask_of {H : Hp} {p b : Addr} (h : b ≠ p) : mask H p b = H b := if_neg h
structure Rg (K : PySem.W.Frag) (T : List (Addr × Str)) (F0 G F H : Hp) (σ : L2.St) (ρ : Rho) (i : Nat) (p : Addr) (m : RSt) : Prop where
  at_ : At K T F H σ ρ
  nx : Nx T F0 G F H
  no : ∀ (j : Nat) (d : D), ρ[j]? ≠ some (En.o d)
  me : σ[i]? = some (some (.ref p))
  st : RdAt K H p m
  fF : F p = none
  fG : ∀ o, G p = some o → ∃ ps, o = .tbl ps
def aftR {α β : Type} (R : Hp → α → β → Prop) (K : PySem.W.Frag) (T : List (Addr × Str)) (E : XK) (F0 G F : Hp) (i : Nat) (σ : L2.St) (ρ : Rho) (p : Addr) (Q : α → Hp → Prop) : RR β → Prop
  | .ok b m => ∀ a F' H', Rg K T F0 G F' H' σ ρ i p m → Sub F F' → R F' a b → Q a H'
  | .ex n => ∀ F' H', Nx T F0 G F' H' → Tabs T H' → Sub F F' → E (.ref (He.ga K n)) none H'
  | .bad => False
section
variable {K : PySem.W.Frag} {T : List (Addr × Str)} {E : XK} {F0 G F H F1 H1 : Hp} {σ : L2.St} {ρ : Rho} {i : Nat} {p : Addr} {m : RSt}
theorem Rg.step (g : Rg K T F0 G F H σ ρ i p m) (n : Nx T F H F1 H1) : Rg K T F0 G F1 H1 σ ρ i p m := by
  obtain ⟨dx, h⟩ := g.st
  exact ⟨g.at_.nx n, g.nx.trans n, g.no, g.me, ⟨dx, n.keep h rdO_nt⟩, n.out h rdO_nt g.fF rdO_tup, g.fG⟩
theorem aftR.mono {α β : Type} {R : Hp → α → β → Prop} {Q : α → Hp → Prop} {r : RR β} (e : Sub F F1) (h : aftR R K T E F0 G F i σ ρ p Q r) : aftR R K T E F0 G F1 i σ ρ p Q r := by
  cases r with
  | ok b m => exact fun a F' H' g s => h a F' H' g (e.trans s)
  | ex n => exact fun F' H' g t s => h F' H' g t (e.trans s)
  | bad => exact h
theorem aftR.bind {α β γ δ : Type} {R : Hp → α → β → Prop} {S : Hp → γ → δ → Prop} {Q : γ → Hp → Prop} {r : RR β} {k : β → RSt → RR δ} (h : aftR S K T E F0 G F i σ ρ p Q (r.bind k)) :
    aftR R K T E F0 G F i σ ρ p (fun a H1 => ∃ b m1 F1, Sub F F1 ∧ Rg K T F0 G F1 H1 σ ρ i p m1 ∧ R F1 a b ∧ aftR S K T E F0 G F1 i σ ρ p Q (k b m1)) r := by
  cases r with
  | ok b m => exact fun a F2 H2 g s ra => ⟨b, m, F2, s, g, ra, aftR.mono s h⟩
  | ex n => exact h
  | bad => exact h
theorem aftR.imp {α β : Type} {R : Hp → α → β → Prop} {Q Q' : α → Hp → Prop} {r : RR β} (h : aftR R K T E F0 G F i σ ρ p Q r) (hq : ∀ a H', Q a H' → Q' a H') : aftR R K T E F0 G F i σ ρ p Q' r := by
  cases r with
  | ok b m => exact fun a F' H' g s ra => hq a H' (h a F' H' g s ra)
  | ex n => exact h
  | bad => exact h
end
section
variable {X : Cx} {T : List (Addr × Str)} {E : XK} {F0 G : Hp} {i : Nat}
end
/-! ### statements -/
inductive SRR where
  | nx (ρ : Rho) (m : RSt) | rt (d : D) (m : RSt) | ex (n : Str) | bad
def bindRS {α : Type} (r : RR α) (k : α → RSt → SRR) : SRR := match r with
  | .ok a m => k a m
  | .ex n => .ex n
  | .bad => .bad
def aftRS (K : PySem.W.Frag) (T : List (Addr × Str)) (E : XK) (F0 G F : Hp) (i : Nat) (p : Addr) (Z : Ends) : SRR → Prop
  | .nx ρ m => ∀ σ F' H', Rg K T F0 G F' H' σ ρ i p m → Sub F F' → Z.nx σ H'
  | .rt d m => ∀ v F' H', Nx T F0 G F' H' → RdAt K H' p m → F' p = none → Rp K F' v d → Z.rt v H'
  | .ex n => ∀ F' H', Nx T F0 G F' H' → Tabs T H' → Sub F F' → E (.ref (He.ga K n)) none H'
  | .bad => False
section
variable {K : PySem.W.Frag} {T : List (Addr × Str)} {E : XK} {F0 G F H F1 H1 : Hp} {σ : L2.St} {ρ : Rho} {i : Nat} {p : Addr} {m : RSt} {Z : Ends}
theorem aftRS.mono {r : SRR} (e : Sub F F1) (h : aftRS K T E F0 G F i p Z r) : aftRS K T E F0 G F1 i p Z r := by
  cases r with
  | nx ρ m => exact fun σ F' H' g s => h σ F' H' g (e.trans s)
  | rt d m => exact h
  | ex n => exact fun F' H' g t s => h F' H' g t (e.trans s)
  | bad => exact h
theorem aftRS.bind {α β : Type} {R : Hp → α → β → Prop} {r : RR β} {k : β → RSt → SRR} (h : aftRS K T E F0 G F i p Z (bindRS r k)) :
    aftR R K T E F0 G F i σ ρ p (fun a H1 => ∃ b m1 F1, Sub F F1 ∧ Rg K T F0 G F1 H1 σ ρ i p m1 ∧ R F1 a b ∧ aftRS K T E F0 G F1 i p Z (k b m1)) r := by
  cases r with
  | ok b m => exact fun a F2 H2 g s ra => ⟨b, m, F2, s, g, ra, aftRS.mono s h⟩
  | ex n => exact h
  | bad => exact h
end
section
variable {X : Cx} {T : List (Addr × Str)} {E : XK} {F0 G : Hp} {i : Nat}
theorem Rg.put {K : PySem.W.Frag} {F H : Hp} {σ : L2.St} {ρ : Rho} {p : Addr} {m : RSt} {j : Nat} {v : V} {d : D} (g : Rg K T F0 G F H σ ρ i p m) (hj : j ≠ i) (r : Rp K F v d) : Rg K T F0 G F H (σ.set j (some v)) (ρ.set j (.z d)) i p m := by
  refine ⟨⟨g.at_.z, g.at_.t, g.at_.r.set r⟩, g.nx, fun k d' e => ?_, ?_, g.st, g.fF, g.fG⟩
  · rw [List.getElem?_set] at e
    split at e
    · split at e <;> cases e
    · exact g.no k d' e
  · rw [List.getElem?_set, if_neg hj]
    exact g.me
/-! self.at = e -/
theorem rdO_code {K : PySem.W.Frag} {dx a : Addr} {m : RSt} : ∀ q, rdO K dx m ≠ LamX.CodeO a q := fun q z => by unfold rdO LamX.CodeO at z; cases z
end
/-! ### methods -/
section
variable {K : PySem.W.Frag} {T : List (Addr × Str)} {E : XK} {F0 G F H F1 H1 : Hp} {σ : L2.St} {ρ : Rho} {i : Nat} {p : Addr} {m : RSt}
theorem mask_tabs (h : RdAt K H p m) (t : Tabs T H) : Tabs T (mask H p) := fun q hq => by
  obtain ⟨dx, h⟩ := h
  obtain ⟨ps, k1, k2, k3⟩ := t q hq
  refine ⟨ps, by rw [mask_of fun z => by rw [z, h] at k1; exact rdO_nt ps (Option.some.inj k1)]; exact k1, k2, fun pos cv hc => ?_⟩
  obtain ⟨c, e1, e2⟩ := k3 pos cv hc
  exact ⟨c, e1, by rw [mask_of fun z => by rw [z, h] at e2; exact rdO_code _ (Option.some.inj e2)]; exact e2⟩
/-- a call's changes behind what was there -/
theorem Nx.over (n1 : Nx T F0 G F H) (fG : ∀ o, G p = some o → ∃ ps, o = .tbl ps) (st : RdAt K H p m) (n2 : Nx T F (mask H p) F1 H1) : Nx T F0 G F1 H1 := by
  refine ⟨n1.f.trans n2.f, n2.z, fun b o e nt => ?_, fun a o e => ?_, fun t => n2.tab (mask_tabs st (n1.tab t))⟩
  · refine n2.h b o ?_ nt
    rw [mask_of fun z => by
      rw [z] at e
      obtain ⟨ps, w⟩ := fG o e
      exact nt ps w]
    exact n1.h b o e nt
  · rcases n2.new a o e with q | q
    · exact n1.new a o q
    · refine .inr fun o' e' => ?_
      by_cases w : ∃ ps, o' = .tbl ps
      · exact .inl w
      · refine q o' ?_
        rw [mask_of fun z => by
          rw [z] at e'
          exact w (fG o' e')]
        exact n1.h a o' e' fun ps z => w ⟨ps, z⟩
end
section
variable {X : Cx} {T : List (Addr × Str)} {E : XK} {F0 G : Hp} {i : Nat}
end
/-! ### a new reader -/
section
variable {X : Cx} {T : List (Addr × Str)} {E : XK} {F0 H0 : Hp}
end
end DN
/-! books: dicts whose keys are tuples of ints -/
namespace DN
open PySem PySem.Spec PyProof.Rows L2
open LamX (Tabs ExtN)
def kI (ks : List Int) : List Key := ks.map Sum.inl
def intsOf : List Key → Option (List Int)
  | [] => some []
  | .inl i :: r => (intsOf r).map fun l => i :: l
  | _ => none
def vInt : V → Option D
  | .int i => some (.int i)
  | _ => none
def getT : D → D → Option D
  | .dT kvs, .pw ks => (valV kvs (kI ks)).bind vInt
  | _, _ => none
section
variable {X : Cx} {T : List (Addr × Str)} {W : WX} {F0 H0 : Hp}
/-! ### the frame's own -/
theorem ntTd {kvs : List (List Key × V)} : ∀ ps, HO.dT kvs ≠ .tbl ps := fun ps z => by cases z
theorem dT_code {kvs : List (List Key × V)} {a : Addr} : ∀ q, HO.dT kvs ≠ LamX.CodeO a q := fun q z => by unfold LamX.CodeO at z; cases z
/-! ### made fast: from here on it is not changed -/
theorem OwnAt.sub {K : PySem.W.Frag} {F F' H : Hp} {p : Addr} (e : Sub F F') : ∀ {d : D}, OwnAt K F H p d → OwnAt K F' H p d
  | .lst _, ⟨xs, h, r⟩ => ⟨xs, h, r.mono e⟩
  | .dK _, h => h
  | .dT _, h => h
  | .dic _ _ _ _, ⟨es, h, r⟩ => ⟨es, h, r.mono e⟩
  | .ins _ _ _, ⟨dx, ws, h, r⟩ => ⟨dx, ws, h, r.mono e⟩
theorem Sg.fast {K : PySem.W.Frag} {F H : Hp} {σ : L2.St} {ρ : Rho} {i : Nat} {p : Addr} {kvs : List (List Key × V)} {od : Obj} (g : Sg K T F0 H0 F H σ ρ) (hi : ρ[i]? = some (.o (.dT kvs))) (hs : σ[i]? = some (some (.ref p))) (hp : F p = none) (hx : H p = some (.dT kvs)) :
    Sg K T F0 H0 (upd F p (.frz od (.dT kvs))) (upd H p (.frz od (.dT kvs))) σ (ρ.set i (.z (.dT kvs))) ∧ Sub F (upd F p (.frz od (.dT kvs))) := by
  have il : i < ρ.length := (List.getElem?_eq_some_iff.mp hi).1
  have ow := g.ow i _ p hi hs
  have sb : Sub F (upd F p (.frz od (.dT kvs))) := fun a o e => by rw [upd_ne fun z => by rw [z, hp] at e; cases e]; exact e
  have z1 : Fz (upd F p (.frz od (.dT kvs))) (upd H p (.frz od (.dT kvs))) := ⟨fun a o e => by
    by_cases ha : a = p
    · subst ha; rw [upd_same] at e ⊢; exact e
    · rw [upd_ne ha] at e ⊢; exact g.at_.z.sub _ _ e, fun a ps e => by
    by_cases ha : a = p
    · subst ha; rw [upd_same] at e; cases e
    · rw [upd_ne ha] at e; exact g.at_.z.nt _ _ e⟩
  refine ⟨⟨⟨z1, tabs_updG g.at_.t hx ntTd dT_code, ?_⟩, ⟨g.nx.f.trans sb, z1, fun b o eb no => ?_, fun a o e => ?_, fun t => tabs_updG (g.nx.tab t) hx ntTd dT_code⟩, fun j e q h1 h2 => ?_⟩, sb⟩
  · refine ⟨by rw [List.length_set]; exact g.at_.r.len, fun j e hj => ?_, fun j e hj => ?_, fun j k a b q1 q2 hn h1 h2 h3 h4 => ?_⟩
    · rw [List.getElem?_set] at hj
      by_cases hij : i = j
      · subst hij
        rw [if_pos rfl, if_pos il] at hj
        cases hj
        exact ⟨_, hs, .dT ⟨od, upd_same⟩⟩
      · rw [if_neg hij] at hj
        obtain ⟨v, e1, e2⟩ := g.at_.r.z j e hj
        exact ⟨v, e1, e2.mono sb⟩
    · rw [List.getElem?_set] at hj
      by_cases hij : i = j
      · subst hij
        rw [if_pos rfl, if_pos il] at hj
        cases hj
      · rw [if_neg hij] at hj
        obtain ⟨q, h1, h2, h3⟩ := g.at_.r.o j e hj
        have hne : p ≠ q := g.at_.r.ne i j _ _ p q hij hi hj hs h1
        exact ⟨q, h1, by rw [upd_ne (Ne.symm hne)]; exact h2, (h3.updN (Ne.symm hne)).sub sb⟩
    · have o1 : ∀ j e, (ρ.set i (.z (.dT kvs)))[j]? = some (En.o e) → ρ[j]? = some (En.o e) := fun j e h => by
        rw [List.getElem?_set] at h
        by_cases hij : i = j
        · subst hij
          rw [if_pos rfl, if_pos il] at h
          cases h
        · rw [if_neg hij] at h; exact h
      exact g.at_.r.ne j k a b q1 q2 hn (o1 j a h1) (o1 k b h2) h3 h4
  · rw [upd_ne fun z => by
      subst z
      obtain ⟨ps, k⟩ := ow o eb
      exact no ps k]
    exact g.nx.h _ _ eb no
  · by_cases ha : a = p
    · subst ha
      exact .inr fun o' e' => .inl (ow o' e')
    · rw [upd_ne ha] at e
      exact g.nx.new a o e
  · rw [List.getElem?_set] at h1
    by_cases hij : i = j
    · subst hij
      rw [if_pos rfl, if_pos il] at h1
      cases h1
    · rw [if_neg hij] at h1
      exact g.ow j e q h1 h2
end
end DN
/-! tuples of ints whose object is known: how they come to be, and how that is forgotten -/
namespace DN
open PySem PySem.Spec PyProof.Rows L2
open LamX (Tabs ExtN)
section
variable {X : Cx} {T : List (Addr × Str)} {W : WX}
end
end DN
/-! {k: v} with one key, a tuple of ints: a frozen book -/
namespace L2
open PySem PySem.Spec PyProof.Rows
end L2
namespace DN
open PySem PySem.Spec PyProof.Rows L2
open LamX (Tabs ExtN)
end DN
/-! dict(book): the keys' hashes are apart -/
namespace L2
open PySem PySem.Spec PyProof.Rows
def keyHashI (ks : List Int) : Int := reduceHash (Builtin.Tuple.tupleHashOf (ks.map hashInt))
end L2
namespace DN
open PySem PySem.Spec PyProof.Rows L2
open LamX (Tabs ExtN)
def keysI : List (List Key × V) → Option (List (List Int))
  | [] => some []
  | q :: r => (intsOf q.1).bind fun l => (keysI r).map fun ls => l :: ls
/-- the keys hash apart -/
def apart (kvs : List (List Key × V)) : Bool := match keysI kvs with
  | some ls => decide ((ls.map keyHashI).Nodup)
  | none => false
section
variable {X : Cx} {T : List (Addr × Str)} {W : WX} {F0 H0 : Hp}
end
end DN
/-! book == {} -/
namespace L2
open PySem PySem.Spec PyProof.Rows
end L2
namespace DN
open PySem PySem.Spec PyProof.Rows L2
open LamX (Tabs ExtN)
end DN
/-! sorted(book.items()) -/
namespace L2
open PySem PySem.Spec PyProof.Rows PySem.W
/-- a book's entries -/
abbrev Ent := List Int × Int
section
variable {X : Cx}
end
end L2
namespace L2
open PySem PySem.Spec PyProof.Rows
end L2
namespace DN
open PySem PySem.Spec PyProof.Rows L2
open LamX (Tabs ExtN)
def vNum : V → Option Int
  | .int n => some n
  | _ => none
def ents : List (List Key × V) → Option (List Ent)
  | [] => some []
  | q :: r => (intsOf q.1).bind fun l => (vNum q.2).bind fun n => (ents r).map fun es => (l, n) :: es
section
variable {X : Cx} {T : List (Addr × Str)} {W : WX}
end
end DN
/-! tuple(sorted(..)) with its object known; dict of such a tuple -/
namespace L2
open PySem PySem.Spec PyProof.Rows PySem.W
end L2
namespace DN
open PySem PySem.Spec PyProof.Rows L2
open LamX (Tabs ExtN)
section
variable {X : Cx} {T : List (Addr × Str)} {W : WX}
end
end DN
namespace DN
open PySem PySem.Spec PyProof.Rows L2 PySem.W
open LamX (Tabs ExtN)
end DN
namespace DN
end DN
/-! is, is not of two truths -/
namespace DN
open PySem PySem.Spec PyProof.Rows L2
end DN
/-! a tuple times any small number: none and once by DN42, more by DN1 -/
namespace DN
open PySem PySem.Spec PyProof.Rows L2
end DN
namespace LW
open PySem PySem.Spec PyProof.Rows L2 DN
open TL (numL numL_lt numL_step numL_digits numL_ne tl_num)

/-! ### figures of whole numbers -/
def figs (n : Nat) : Nat := (numL n).length
theorem figs_small {n : Nat} (h : n < 10) : figs n = 1 := by unfold figs; rw [numL_lt h]; rfl
theorem figs_step {n : Nat} (h : 10 ≤ n) : figs n = figs (n / 10) + 1 := by unfold figs; rw [numL_step h, List.length_append]; rfl
theorem figs_pos (n : Nat) : 1 ≤ figs n := by
  by_cases h : n < 10
  · rw [figs_small h]; exact Nat.le_refl 1
  · rw [figs_step (by omega)]; omega
theorem figs_lt : ∀ (n : Nat), n < 10 ^ figs n := fun n => by
  induction n using Nat.strongRecOn with
  | ind n ih =>
    by_cases h : n < 10
    · rw [figs_small h]; omega
    · have := ih (n / 10) (by omega)
      rw [figs_step (by omega), Nat.pow_succ]
      omega
theorem figs_ge : ∀ (n : Nat), 0 < n → 10 ^ (figs n - 1) ≤ n := fun n => by
  induction n using Nat.strongRecOn with
  | ind n ih =>
    intro h0
    by_cases h : n < 10
    · rw [figs_small h]
      show 10 ^ 0 ≤ n
      have : (10 : Nat) ^ 0 = 1 := rfl
      omega
    · have := ih (n / 10) (by omega) (by omega)
      rw [figs_step (by omega)]
      have h2 := figs_pos (n / 10)
      have e : figs (n / 10) + 1 - 1 = (figs (n / 10) - 1) + 1 := by omega
      rw [e, Nat.pow_succ]
      omega
theorem pow10_le {a b : Nat} (h : a ≤ b) : 10 ^ a ≤ 10 ^ b := Nat.pow_le_pow_right (by decide) h
theorem pow10_pos (a : Nat) : 0 < 10 ^ a := Nat.pow_pos (by decide)
theorem figs_le {n k : Nat} (hk : 1 ≤ k) (h : n < 10 ^ k) : figs n ≤ k := by
  by_cases h0 : n = 0
  · subst h0; rw [figs_small (by decide)]; exact hk
  · have h1 := figs_ge n (by omega)
    have h2 := figs_pos n
    by_cases hc : figs n ≤ k
    · exact hc
    · exfalso
      have := pow10_le (show k ≤ figs n - 1 by omega)
      omega
theorem str_tl (n : Nat) : (Str.ofString (toString (n : Int))).cps.toList = numL n := tl_num n
theorem str_tl_int {i : Int} (h : 0 ≤ i) : (Str.ofString (toString i)).cps.toList = numL i.natAbs := by
  obtain ⟨n, rfl⟩ : ∃ n : Nat, i = n := ⟨i.natAbs, by omega⟩
  rw [str_tl]; rfl
theorem str_len {i : Int} (h : 0 ≤ i) : (Str.ofString (toString i)).length = figs i.natAbs := by
  show (Str.ofString (toString i)).cps.size = _
  rw [← Array.length_toList, str_tl_int h]; rfl
theorem abs_if (i : Int) : (if i < 0 then -i else i) = (i.natAbs : Int) := by split <;> omega
/-- len(str(n)) -/
theorem lenstr {i : Int} (h : 0 ≤ i) (h2 : i.natAbs < 10 ^ 500) : strD [.int i] = some (.str (Str.ofString (toString i))) ∧ lenD [.str (Str.ofString (toString i))] = some (.int (figs i.natAbs)) := by
  have hp : (10 : Nat) ^ 500 < 2 ^ 1900 := by decide +kernel
  refine ⟨str_i (Nat.lt_trans h2 hp), ?_⟩
  rw [len_s, str_len h]
  rw [str_len h]
  have := figs_le (by decide) h2
  omega
end LW
namespace LW
open PySem PySem.Spec PyProof.Rows L2 DN
open TL (numL numL_lt numL_step numL_digits numL_ne tl_num)
/-! ### texts -/
theorem s_len (x : Str) : x.length = x.cps.toList.length := (Array.length_toList).symm
theorem app_tl (a b : Str) : (a ++ b).cps.toList = a.cps.toList ++ b.cps.toList := by
  show (a.cps ++ b.cps).toList = _
  simp
theorem repS_one (c : Nat) (k : Int) : (repS ⟨#[c]⟩ k).cps.toList = List.replicate k.toNat c := by
  unfold repS
  show ((List.replicate k.toNat [c]).flatten).toArray.toList = _
  rw [List.toList_toArray]
  induction k.toNat with
  | zero => rfl
  | succ n ih => rw [List.replicate_succ, List.flatten_cons, ih]; rfl
theorem one_s (c : Nat) (s : String) (h : Str.ofString s = ⟨#[c]⟩) (k : Int) : (repS (Str.ofString s) k).cps.toList = List.replicate k.toNat c := by rw [h]; exact repS_one c k
theorem mul_si {x : Str} {n : Int} (h : n ≤ 1000000 ∧ -1000000 ≤ n ∧ x.length * n.toNat ≤ 1000000) : mulD (.str x) (.int n) = some (.str (repS x n)) := by
  show (if n ≤ 1000000 ∧ -1000000 ≤ n ∧ x.length * n.toNat ≤ 1000000 then some (D.str (repS x n)) else none) = _
  rw [if_pos h]
/-- one sign so often -/
theorem mul_one {s : String} {n : Int} (c : Nat) (h : Str.ofString s = ⟨#[c]⟩) (h1 : n ≤ 1000000) (h2 : -1000000 ≤ n) : mulD (.str (Str.ofString s)) (.int n) = some (.str (repS (Str.ofString s) n)) := mul_si ⟨h1, h2, by
  rw [h]
  show 1 * n.toNat ≤ 1000000
  omega⟩
theorem add_ss {x y : Str} (h : x.length + y.length ≤ 1000000) : addD (.str x) (.str y) = some (.str (x ++ y)) := by
  show (if x.length + y.length ≤ sizeLine then some (D.str (x ++ y)) else none) = _
  rw [if_pos (by rw [sizeLine_eq]; omega)]
end LW
namespace LW
open PySem PySem.Spec PyProof.Rows L2 DN
open TL (numL numL_lt numL_step numL_digits numL_ne tl_num)
/-! ### numbers' texts -/
def S (l : List Nat) : Str := ⟨l.toArray⟩
theorem zero_s : Str.ofString "0" = ⟨#[48]⟩ := by decide +kernel
end LW
namespace LW
open PySem PySem.Spec PyProof.Rows L2 DN
/-! ### rounding, plainly -/
inductive Hw where | nought | more | even | away
  deriving DecidableEq
inductive Mn where | even | away | nought | up | down
  deriving DecidableEq
def Hw.s : Hw → Str
  | .nought => "nought" | .more => "more" | .even => "even" | .away => "away"
def Mn.s : Mn → Str
  | .nought => "nought" | .up => "up" | .down => "down" | .even => "even" | .away => "away"
def Mn.by : Mn → Bool → Hw
  | .up, false => .more | .up, true => .nought | .down, false => .nought | .down, true => .more | .even, _ => .even | .away, _ => .away | .nought, _ => .nought
def takenZ (h : Hw) (q r l : Int) : Int := if r = 0 then q else match h with
  | .nought => q
  | .more => q + 1
  | .even => if 2 * r = l then q + (if q % 2 = 1 then 1 else 0) else q + (if l < 2 * r then 1 else 0)
  | .away => if 2 * r = l then q + 1 else q + (if l < 2 * r then 1 else 0)
def strip : Nat → Int → Int → Int × Int
  | 0, a, b => (a, b)
  | n + 1, a, b => if a % 10 = 0 then strip n (a / 10) (b + 1) else (a, b)
def sgZ (bl : Bool) : Int := 1 - 2 * (if bl = true then 1 else 0)
def hgZ (s : Int × Int) : Int := s.2 + (figs s.1.natAbs : Int) - 1
def fitZ (h : Hw) (w p : Int) (bl : Bool) : Option (Int × Int) :=
  if 40 < hgZ (strip 5000 w p) then none else if hgZ (strip 5000 w p) < -40 then (if h = .more then some (sgZ bl, -40) else some (0, 0)) else some (sgZ bl * (strip 5000 w p).1, (strip 5000 w p).2)
def pw0 (U L : Nat) : Int := (figs U : Int) - (figs L : Int) - 8
def pwN (U L : Nat) : Int := if L * 10 ^ (pw0 U L).toNat * 10 ^ 8 ≤ U * 10 ^ (-(pw0 U L)).toNat then pw0 U L + 1 else pw0 U L
def exZ (m : Mn) (u l : Int) : Option (Int × Int) :=
  if u = 0 then some (0, 0) else
    let p := pwN u.natAbs l.natAbs
    let U : Int := (u.natAbs : Int) * 10 ^ (-p).toNat
    let L : Int := (l.natAbs : Int) * 10 ^ p.toNat
    let bl := decide (u < 0) != decide (l < 0)
    fitZ (m.by bl) (takenZ (m.by bl) (U / L) (U % L) L) p bl
theorem pow_add10 (a b : Nat) : (10 : Nat) ^ a * 10 ^ b = 10 ^ (a + b) := (Nat.pow_add 10 a b).symm
theorem pw_hi {U L : Nat} {p : Int} (hL : 0 < L) (hp : p = pw0 U L + 1) : U * 10 ^ (-p).toNat < L * 10 ^ p.toNat * 10 ^ 8 := by
  have h1 := figs_lt U
  have h2 := figs_ge L hL
  have h3 := figs_pos L
  unfold pw0 at hp
  have e : figs U + (-p).toNat = (figs L - 1) + p.toNat + 8 := by omega
  have a1 : U * 10 ^ (-p).toNat < 10 ^ figs U * 10 ^ (-p).toNat := Nat.mul_lt_mul_of_pos_right h1 (pow10_pos _)
  have a2 : 10 ^ (figs L - 1) * 10 ^ p.toNat * 10 ^ 8 ≤ L * 10 ^ p.toNat * 10 ^ 8 := Nat.mul_le_mul_right _ (Nat.mul_le_mul_right _ h2)
  rw [pow_add10, e] at a1
  rw [pow_add10, pow_add10] at a2
  omega
theorem pw_lo {U L : Nat} {p : Int} (hU : 0 < U) (hp : p = pw0 U L) : L * 10 ^ (p.toNat + 7) ≤ U * 10 ^ (-p).toNat := by
  have h1 := figs_lt L
  have h2 := figs_ge U hU
  have h3 := figs_pos U
  unfold pw0 at hp
  have e : (figs U - 1) + (-p).toNat = figs L + (p.toNat + 7) := by omega
  have a1 : L * 10 ^ (p.toNat + 7) < 10 ^ figs L * 10 ^ (p.toNat + 7) := Nat.mul_lt_mul_of_pos_right h1 (pow10_pos _)
  have a2 : 10 ^ (figs U - 1) * 10 ^ (-p).toNat ≤ U * 10 ^ (-p).toNat := Nat.mul_le_mul_right _ h2
  rw [pow_add10] at a1
  rw [pow_add10, e] at a2
  omega
theorem pw_same {U L : Nat} {p : Int} : (U * 10 ^ (-(p + 1)).toNat < L * 10 ^ ((p + 1).toNat + 7)) ↔ ¬ L * 10 ^ p.toNat * 10 ^ 8 ≤ U * 10 ^ (-p).toNat := by
  rw [Nat.not_le]
  by_cases h : 0 ≤ p
  · have e1 : (-(p + 1)).toNat = 0 := by omega
    have e2 : (-p).toNat = 0 := by omega
    have e3 : (p + 1).toNat + 7 = p.toNat + 8 := by omega
    rw [e1, e2, e3, Nat.pow_add, Nat.mul_assoc]
  · have e1 : (-p).toNat = (-(p + 1)).toNat + 1 := by omega
    have e2 : p.toNat = 0 := by omega
    have e3 : (p + 1).toNat + 7 = 7 := by omega
    have e4 : (10 : Nat) ^ ((-(p + 1)).toNat + 1) = 10 ^ (-(p + 1)).toNat * 10 := Nat.pow_succ _ _
    rw [e1, e2, e3, e4]
    generalize (10 : Nat) ^ (-(p + 1)).toNat = x
    have : U * (x * 10) = U * x * 10 := by rw [Nat.mul_assoc]
    rw [this]
    generalize U * x = y
    omega
theorem pw_low {U L : Nat} (hU : 0 < U) (hL : 0 < L) : L * 10 ^ (pwN U L).toNat * 10 ^ 7 ≤ U * 10 ^ (-(pwN U L)).toNat ∧ U * 10 ^ (-(pwN U L)).toNat < L * 10 ^ (pwN U L).toNat * 10 ^ 8 := by
  unfold pwN
  by_cases h : L * 10 ^ (pw0 U L).toNat * 10 ^ 8 ≤ U * 10 ^ (-(pw0 U L)).toNat
  · rw [if_pos h]
    refine ⟨?_, pw_hi hL rfl⟩
    have := (Decidable.not_iff_not.mpr (pw_same (U := U) (L := L) (p := pw0 U L))).mpr (fun z => z h)
    rw [Nat.not_lt, Nat.pow_add, ← Nat.mul_assoc] at this
    exact this
  · rw [if_neg h]
    have := pw_lo (L := L) hU rfl
    rw [Nat.pow_add, ← Nat.mul_assoc] at this
    exact ⟨this, by omega⟩
/-! the parts -/
theorem strip_neg : ∀ (n : Nat) (a b : Int), strip n (-a) b = (-(strip n a b).1, (strip n a b).2)
  | 0, _, _ => rfl
  | n + 1, a, b => by
    unfold strip
    by_cases h : a % 10 = 0
    · have e : -a / 10 = -(a / 10) := by omega
      rw [if_pos h, if_pos (by omega), e, strip_neg n]
    · rw [if_neg h, if_neg (by omega)]
theorem strip_pos : ∀ (n : Nat) (a b : Int), 0 < a → 0 < (strip n a b).1 ∧ (strip n a b).1 ≤ a ∧ b ≤ (strip n a b).2 ∧ (strip n a b).2 ≤ b + n
  | 0, a, b, h => ⟨h, Int.le_refl a, Int.le_refl b, by show b ≤ b + (0 : Nat); omega⟩
  | n + 1, a, b, h => by
    unfold strip
    by_cases h0 : a % 10 = 0
    · rw [if_pos h0]
      obtain ⟨h1, h2, h3, h4⟩ := strip_pos n (a / 10) (b + 1) (by omega)
      exact ⟨h1, by omega, by omega, by omega⟩
    · rw [if_neg h0]
      exact ⟨h, Int.le_refl a, Int.le_refl b, by show b ≤ b + ((n + 1 : Nat) : Int); omega⟩
theorem natAbs_mul_pow {u : Int} {n k : Nat} (h : u.natAbs < 10 ^ k) : (u * 10 ^ n).natAbs < 10 ^ (k + n) := by
  have e : ((10 : Int) ^ n).natAbs = 10 ^ n := by rw [Int.natAbs_pow]; rfl
  rw [Int.natAbs_mul, e, Nat.pow_add]
  exact Nat.mul_lt_mul_of_pos_right h (pow10_pos n)
theorem pow_z (n : Nat) : ((10 : Int) ^ n).natAbs = 10 ^ n := by rw [Int.natAbs_pow]; rfl
theorem mul_z {i j : Int} (h1 : i.natAbs < 10 ^ 2000) (h2 : j.natAbs < 10 ^ 2000) : mulD (.int i) (.int j) = some (.int (i * j)) := by
  have p : (10 : Nat) ^ 2000 ≤ 2 ^ 100000 := by decide +kernel
  exact mul_w (Nat.lt_of_lt_of_le h1 p) (Nat.lt_of_lt_of_le h2 p)
theorem div_z {i j : Int} (h : 0 < j) (h2 : j.natAbs < 10 ^ 2000) : divD (.int i) (.int j) = some (.int (i / j)) := by
  have p : (10 : Nat) ^ 2000 ≤ 2 ^ 8000 := by decide +kernel
  exact div_w h (Nat.lt_of_lt_of_le h2 p)
theorem mul_t {u : Int} {n : Nat} (h : u.natAbs < 10 ^ 1000) (hn : n ≤ 900) : mulD (.int u) (.int (10 ^ n)) = some (.int (u * 10 ^ n)) :=
  mul_z (Nat.lt_of_lt_of_le h (pow10_le (by decide))) (by rw [pow_z]; exact Nat.pow_lt_pow_right (by decide) (by omega))
theorem maxz (x : Int) : (if (0 : Int) > x then 0 else x) = (x.toNat : Int) := by split <;> omega
theorem pow_ge1 (n : Nat) : (1 : Int) ≤ 10 ^ n := by
  have : (0 : Int) < 10 ^ n := Int.pow_pos (by decide)
  omega
end LW
namespace LW
open PySem PySem.Spec PyProof.Rows L2 DN
/-! ### rounding over the fractions -/
def T (p : Int) : Rat := (10 : Rat) ^ p
theorem T_pos (p : Int) : 0 < T p := Rat.zpow_pos (by decide)
theorem T_add (a b : Int) : T (a + b) = T a * T b := Rat.zpow_add (by decide) a b
theorem T_zero : T 0 = 1 := Rat.zpow_zero 10
theorem T_one : T 1 = 10 := Rat.zpow_one 10
theorem T_nat (n : Nat) : T (n : Int) = ((10 ^ n : Int) : Rat) := by
  unfold T
  rw [Rat.zpow_natCast, Rat.intCast_pow]
  rfl
theorem T_neg (p : Int) : T p * T (-p) = 1 := by rw [← T_add, show p + -p = 0 by omega, T_zero]
theorem T_ge1 (n : Nat) : 1 ≤ T (n : Int) := by
  rw [T_nat]
  exact Rat.intCast_le_intCast.mpr (pow_ge1 n)
theorem T_mono {a b : Int} (h : a ≤ b) : T a ≤ T b := by
  obtain ⟨n, e⟩ := Int.eq_ofNat_of_zero_le (show 0 ≤ b - a by omega)
  have e2 : b = a + (n : Int) := by omega
  rw [e2, T_add]
  have := Rat.mul_le_mul_of_nonneg_left (T_ge1 n) (Rat.le_of_lt (T_pos a))
  rwa [Rat.mul_one] at this
theorem T_lt {a b : Int} (h : a < b) : T a < T b := by
  have h1 := T_mono (show a + 1 ≤ b by omega)
  have h2 := T_pos a
  rw [T_add, T_one] at h1
  grind
theorem T_lt_iff {a b : Int} : T a < T b ↔ a < b := ⟨fun h => by
  by_cases q : a < b
  · exact q
  · have := T_mono (show b ≤ a by omega)
    grind, T_lt⟩
theorem le_div {a b c : Rat} (hc : 0 < c) : a ≤ b / c ↔ a * c ≤ b := by rw [← Rat.not_lt, ← Rat.not_lt, Rat.div_lt_iff hc]
theorem mul_cancel {a b c : Rat} (hc : 0 < c) (h : a * c = b * c) : a = b := by
  have n : c ≠ 0 := fun z => by grind
  rw [← Rat.mul_div_cancel (a := a) n, h, Rat.mul_div_cancel n]
def vl (s : Int × Int) : Rat := (s.1 : Rat) * T s.2
/-- one power about a fraction above 0 -/
def PwOf (v : Rat) (p : Int) : Prop := T (p + 7) ≤ v ∧ v < T (p + 8)
theorem pw_uniq {v : Rat} {p q : Int} (h : PwOf v p) (g : PwOf v q) : p = q := by
  have a := T_lt_iff.mp (show T (p + 7) < T (q + 8) from by have := h.1; have := g.2; grind)
  have b := T_lt_iff.mp (show T (q + 7) < T (p + 8) from by have := h.2; have := g.1; grind)
  omega
theorem frac_T {U L : Nat} (hL : 0 < L) (p : Int) : ((U : Int) : Rat) / ((L : Int) : Rat) * T (-p) = (((U : Int) * 10 ^ (-p).toNat : Int) : Rat) / (((L : Int) * 10 ^ p.toNat : Int) : Rat) := by
  have hL' : (0 : Rat) < ((L : Int) : Rat) := Rat.intCast_pos.mpr (by omega)
  rw [Rat.intCast_mul, Rat.intCast_mul, ← T_nat, ← T_nat]
  have e : T (-p) * T (p.toNat : Int) = T ((-p).toNat : Int) := by rw [← T_add]; congr 1; omega
  have h1 := T_pos (p.toNat : Int)
  grind
theorem pw_R {U L : Nat} (hU : 0 < U) (hL : 0 < L) : PwOf (((U : Int) : Rat) / ((L : Int) : Rat)) (pwN U L) := by
  obtain ⟨h1, h2⟩ := pw_low hU hL
  have e := frac_T (U := U) hL (pwN U L)
  generalize pwN U L = p at *
  have lp : (0 : Rat) < (((L : Int) * 10 ^ p.toNat : Int) : Rat) := Rat.intCast_pos.mpr (Int.mul_pos (by omega) (by have := pow_ge1 p.toNat; omega))
  have t1 : (10 : Rat) ^ 7 ≤ ((U : Int) : Rat) / ((L : Int) : Rat) * T (-p) := by
    rw [e]
    have : (10 : Rat) ^ 7 * (((L : Int) * 10 ^ p.toNat : Int) : Rat) ≤ (((U : Int) * 10 ^ (-p).toNat : Int) : Rat) := by
      have : (((10 : Int) ^ 7 * ((L : Int) * 10 ^ p.toNat) : Int) : Rat) ≤ (((U : Int) * 10 ^ (-p).toNat : Int) : Rat) := by
        refine Rat.intCast_le_intCast.mpr ?_
        have := Int.ofNat_le.mpr h1
        simp only [Int.natCast_mul, Int.natCast_pow] at this
        rw [Int.mul_comm]
        exact this
      rwa [Rat.intCast_mul] at this
    exact (le_div lp).mpr this
  have t2 : ((U : Int) : Rat) / ((L : Int) : Rat) * T (-p) < (10 : Rat) ^ 8 := by
    rw [e]
    have : (((U : Int) * 10 ^ (-p).toNat : Int) : Rat) < (10 : Rat) ^ 8 * (((L : Int) * 10 ^ p.toNat : Int) : Rat) := by
      have : (((U : Int) * 10 ^ (-p).toNat : Int) : Rat) < (((10 : Int) ^ 8 * ((L : Int) * 10 ^ p.toNat) : Int) : Rat) := by
        refine Rat.intCast_lt_intCast.mpr ?_
        have := Int.ofNat_lt.mpr h2
        simp only [Int.natCast_mul, Int.natCast_pow] at this
        rw [Int.mul_comm ((10 : Int) ^ 8)]
        exact this
      rwa [Rat.intCast_mul (10 ^ 8)] at this
    rw [Rat.div_lt_iff lp]
    exact this
  have t7 : T 7 = (10 : Rat) ^ 7 := Rat.zpow_natCast 10 7
  have t8 : T 8 = (10 : Rat) ^ 8 := Rat.zpow_natCast 10 8
  have hp := T_pos p
  have hn := T_neg p
  have key : ∀ v : Rat, v * T (-p) * T p = v := fun v => by grind
  constructor
  · have := Rat.mul_le_mul_of_nonneg_right t1 (Rat.le_of_lt hp)
    rw [key, ← t7, ← T_add, Int.add_comm] at this
    exact this
  · have := Rat.mul_lt_mul_of_pos_right t2 hp
    rw [key, ← t8, ← T_add, Int.add_comm] at this
    exact this
/-- a fraction rounded to a whole number -/
def tkR (h : Hw) (x : Rat) : Int := if x = (x.floor : Rat) then x.floor else match h with
  | .nought => x.floor
  | .more => x.floor + 1
  | .even => if 2 * (x - x.floor) = 1 then x.floor + (if x.floor % 2 = 1 then 1 else 0) else x.floor + (if 1 < 2 * (x - x.floor) then 1 else 0)
  | .away => if 2 * (x - x.floor) = 1 then x.floor + 1 else x.floor + (if 1 < 2 * (x - x.floor) then 1 else 0)
theorem floor_div {U L : Int} (hL : 0 < L) : ((U : Rat) / (L : Rat)).floor = U / L := by
  have hL' : (0 : Rat) < (L : Rat) := Rat.intCast_pos.mpr hL
  have h1 : U / L ≤ ((U : Rat) / (L : Rat)).floor := by
    rw [Rat.le_floor_iff, le_div hL', ← Rat.intCast_mul, Rat.intCast_le_intCast]
    exact Int.ediv_mul_le U (by omega)
  have h2 : ((U : Rat) / (L : Rat)).floor < U / L + 1 := by
    rw [Rat.floor_lt_iff, Rat.div_lt_iff hL', ← Rat.intCast_mul, Rat.intCast_lt_intCast]
    exact Int.lt_ediv_add_one_mul_self U hL
  omega
theorem taken_R (h : Hw) {U L : Int} (hL : 0 < L) : takenZ h (U / L) (U % L) L = tkR h ((U : Rat) / (L : Rat)) := by
  have hL' : (0 : Rat) < (L : Rat) := Rat.intCast_pos.mpr hL
  have e : (U : Rat) = (L : Rat) * ((U / L : Int) : Rat) + ((U % L : Int) : Rat) := by
    rw [← Rat.intCast_mul, ← Rat.intCast_add, Rat.intCast_inj]
    exact (Int.mul_ediv_add_emod U L).symm
  have e2 : (U : Rat) / (L : Rat) - ((U / L : Int) : Rat) = ((U % L : Int) : Rat) / (L : Rat) := by grind
  have c0 : (U : Rat) / (L : Rat) = ((U / L : Int) : Rat) ↔ U % L = 0 := by
    rw [← Rat.intCast_eq_zero_iff]
    constructor
    · intro q; grind
    · intro q; grind
  have c1 : 2 * ((U : Rat) / (L : Rat) - ((U / L : Int) : Rat)) = 1 ↔ 2 * (U % L) = L := by
    rw [e2, ← Rat.intCast_inj, Rat.intCast_mul]
    have : ((2 : Int) : Rat) = 2 := rfl
    rw [this]
    constructor
    · intro q; grind
    · intro q; grind
  have c2 : 1 < 2 * ((U : Rat) / (L : Rat) - ((U / L : Int) : Rat)) ↔ L < 2 * (U % L) := by
    rw [e2, ← Rat.intCast_lt_intCast, Rat.intCast_mul, show ∀ a b : Rat, 2 * (a / b) = (2 * a) / b from fun a b => by grind, Rat.lt_div_iff hL']
    have : ((2 : Int) : Rat) = 2 := rfl
    rw [this]
    constructor
    · intro q; grind
    · intro q; grind
  unfold tkR takenZ
  rw [floor_div hL]
  simp only [c0, c1, c2]
  all_goals (cases h <;> rfl)
/-- the values are read off -/
theorem tk_bound (h : Hw) (x : Rat) : x.floor ≤ tkR h x ∧ tkR h x ≤ x.floor + 1 := by
  unfold tkR
  split
  · omega
  · cases h <;> (repeat' split) <;> omega
theorem tk_int (h : Hw) (n : Int) : tkR h (n : Rat) = n := by
  unfold tkR
  rw [Rat.floor_intCast, if_pos rfl]
theorem tk_mono (h : Hw) {x y : Rat} (hxy : x ≤ y) : tkR h x ≤ tkR h y := by
  have f := Rat.floor_monotone hxy
  obtain ⟨a1, a2⟩ := tk_bound h x
  obtain ⟨b1, b2⟩ := tk_bound h y
  by_cases q : x.floor < y.floor
  · omega
  · have e : x.floor = y.floor := by omega
    have fx := Rat.floor_le x
    unfold tkR
    rw [← e]
    by_cases c : x = (x.floor : Rat)
    · rw [if_pos c]
      split
      · omega
      · cases h <;> (repeat' split) <;> omega
    · rw [if_neg c, if_neg (show ¬ y = (x.floor : Rat) by grind)]
      cases h with
      | nought => simp
      | more => simp
      | even =>
        simp only
        generalize hF : x.floor = F at *
        by_cases p1 : 2 * (x - (F : Rat)) = 1
        · rw [if_pos p1]
          by_cases p2 : 2 * (y - (F : Rat)) = 1
          · rw [if_pos p2]; exact Int.le_refl _
          · rw [if_neg p2, if_pos (show 1 < 2 * (y - (F : Rat)) from Rat.lt_of_le_of_ne (by grind) (fun z => p2 z.symm))]; split <;> omega
        · rw [if_neg p1]
          by_cases p3 : 1 < 2 * (x - (F : Rat))
          · rw [if_pos p3, if_neg (show ¬ 2 * (y - (F : Rat)) = 1 by grind), if_pos (show 1 < 2 * (y - (F : Rat)) by grind)]; exact Int.le_refl _
          · rw [if_neg p3]
            (repeat' split) <;> omega
      | away =>
        simp only
        generalize hF : x.floor = F at *
        by_cases p1 : 2 * (x - (F : Rat)) = 1
        · rw [if_pos p1]
          by_cases p2 : 2 * (y - (F : Rat)) = 1
          · rw [if_pos p2]; exact Int.le_refl _
          · rw [if_neg p2, if_pos (show 1 < 2 * (y - (F : Rat)) from Rat.lt_of_le_of_ne (by grind) (fun z => p2 z.symm))]; exact Int.le_refl _
        · rw [if_neg p1]
          by_cases p3 : 1 < 2 * (x - (F : Rat))
          · rw [if_pos p3, if_neg (show ¬ 2 * (y - (F : Rat)) = 1 by grind), if_pos (show 1 < 2 * (y - (F : Rat)) by grind)]; exact Int.le_refl _
          · rw [if_neg p3]
            (repeat' split) <;> omega
/-! stripped -/
theorem vl_strip : ∀ (n : Nat) (a b : Int), vl (strip n a b) = vl (a, b)
  | 0, _, _ => rfl
  | n + 1, a, b => by
    unfold strip
    by_cases h : a % 10 = 0
    · rw [if_pos h, vl_strip n]
      unfold vl
      have e : (a : Rat) = ((a / 10 : Int) : Rat) * 10 := by
        have : ((a : Int) : Rat) = (((a / 10) * 10 : Int) : Rat) := Rat.intCast_inj.mpr (by omega)
        rwa [Rat.intCast_mul] at this
      show ((a / 10 : Int) : Rat) * T (b + 1) = (a : Rat) * T b
      rw [T_add, T_one, e]
      grind
    · rw [if_neg h]
theorem strip_end : ∀ (n : Nat) (a b : Int), a ≠ 0 → a.natAbs < 10 ^ n → (strip n a b).1 % 10 ≠ 0
  | 0, a, b, h0, h => by
    have : (10 : Nat) ^ 0 = 1 := rfl
    omega
  | n + 1, a, b, h0, h => by
    unfold strip
    by_cases q : a % 10 = 0
    · rw [if_pos q]
      refine strip_end n _ _ (by omega) ?_
      have : (10 : Nat) ^ (n + 1) = 10 ^ n * 10 := Nat.pow_succ _ _
      omega
    · rw [if_neg q]; exact q
theorem figs_10 {a : Int} (h : 0 < a) (q : a % 10 = 0) : figs a.natAbs = figs (a / 10).natAbs + 1 := by
  have e : (a / 10).natAbs = a.natAbs / 10 := by omega
  rw [e]
  exact figs_step (by omega)
theorem hg_strip : ∀ (n : Nat) (a b : Int), 0 < a → hgZ (strip n a b) = hgZ (a, b)
  | 0, _, _, _ => rfl
  | n + 1, a, b, h => by
    unfold strip
    by_cases q : a % 10 = 0
    · rw [if_pos q, hg_strip n _ _ (by omega)]
      unfold hgZ
      have := figs_10 h q
      simp only
      omega
    · rw [if_neg q]
/-- a height tells a size -/
theorem hg_T {a b : Int} (h : 0 < a) : T (hgZ (a, b)) ≤ vl (a, b) ∧ vl (a, b) < T (hgZ (a, b) + 1) := by
  have h1 := figs_lt a.natAbs
  have h2 := figs_ge a.natAbs (by omega)
  have h3 := figs_pos a.natAbs
  unfold hgZ vl
  simp only
  have e1 : b + (figs a.natAbs : Int) - 1 = ((figs a.natAbs - 1 : Nat) : Int) + b := by omega
  have e2 : b + (figs a.natAbs : Int) - 1 + 1 = ((figs a.natAbs : Nat) : Int) + b := by omega
  rw [e2, e1, T_add, T_add, T_nat, T_nat]
  have a1 : ((10 : Int) ^ (figs a.natAbs - 1)) ≤ a := by
    have := Int.ofNat_le.mpr h2
    rw [Int.natCast_pow] at this
    have e : ((a.natAbs : Nat) : Int) = a := by omega
    rw [e] at this
    exact this
  have a2 : a < ((10 : Int) ^ (figs a.natAbs)) := by
    have := Int.ofNat_lt.mpr h1
    rw [Int.natCast_pow] at this
    have e : ((a.natAbs : Nat) : Int) = a := by omega
    rw [e] at this
    exact this
  exact ⟨Rat.mul_le_mul_of_nonneg_right (Rat.intCast_le_intCast.mpr a1) (Rat.le_of_lt (T_pos b)), Rat.mul_lt_mul_of_pos_right (Rat.intCast_lt_intCast.mpr a2) (T_pos b)⟩
theorem hg_hi {a b : Int} (h : 0 < a) (k : Int) : k < hgZ (a, b) ↔ T (k + 1) ≤ vl (a, b) := by
  obtain ⟨h1, h2⟩ := hg_T (b := b) h
  constructor
  · intro q
    have := T_mono (show k + 1 ≤ hgZ (a, b) by omega)
    grind
  · intro q
    have := T_lt_iff.mp (show T (k + 1) < T (hgZ (a, b) + 1) by grind)
    omega
theorem hg_lo {a b : Int} (h : 0 < a) (k : Int) : hgZ (a, b) < k ↔ vl (a, b) < T k := by
  have := hg_hi (b := b) h (k - 1)
  rw [show k - 1 + 1 = k by omega] at this
  grind
def NumOk (a b : Int) : Prop := (a = 0 ∧ b = 0) ∨ (a ≠ 0 ∧ a % 10 ≠ 0 ∧ a.natAbs < 10 ^ 8 ∧ -40 ≤ b + (figs a.natAbs : Int) - 1 ∧ b + (figs a.natAbs : Int) - 1 ≤ 40)
theorem vl_neg (s : Int × Int) : vl (-s.1, s.2) = -vl s := by
  unfold vl
  simp only
  rw [Rat.intCast_neg]
  grind
theorem vl_zero (b : Int) : vl (0, b) = 0 := by
  show ((0 : Int) : Rat) * T b = 0
  rw [Rat.intCast_zero, Rat.zero_mul]
/-- digits that end in no 0 are told by the value -/
theorem vl_inj {s t : Int × Int} (hs : s.1 % 10 ≠ 0) (ht : t.1 % 10 ≠ 0) (h : vl s = vl t) : s = t := by
  have key : ∀ (a b a' b' : Int), a % 10 ≠ 0 → a' % 10 ≠ 0 → b ≤ b' → vl (a, b) = vl (a', b') → a = a' ∧ b = b' := by
    intro a b a' b' h1 h2 hb e
    obtain ⟨n, hn⟩ := Int.eq_ofNat_of_zero_le (show 0 ≤ b' - b by omega)
    have e2 : b' = (n : Int) + b := by omega
    subst e2
    unfold vl at e
    simp only at e
    rw [T_add, T_nat] at e
    have hb := T_pos b
    have e3 : (a : Rat) = (a' : Rat) * ((10 ^ n : Int) : Rat) := mul_cancel hb (by rw [e, Rat.mul_assoc])
    rw [← Rat.intCast_mul, Rat.intCast_inj] at e3
    cases n with
    | zero => exact ⟨by simpa using e3, by simp⟩
    | succ n =>
      exfalso
      rw [Int.pow_succ, ← Int.mul_assoc] at e3
      omega
  obtain ⟨a, b⟩ := s
  obtain ⟨a', b'⟩ := t
  by_cases q : b ≤ b'
  · obtain ⟨h1, h2⟩ := key a b a' b' hs ht q h
    rw [h1, h2]
  · obtain ⟨h1, h2⟩ := key a' b' a b ht hs (by omega) h.symm
    rw [h1, h2]
/-! the rounded value -/
def pR (v : Rat) : Int := pwN v.num.natAbs v.den
theorem num_pos' {v : Rat} (h : 0 < v) : 0 < v.num := by
  have := (Rat.lt_iff 0 v).mp h
  simpa using this
theorem pR_of {v : Rat} (h : 0 < v) : PwOf v (pR v) := by
  have h1 := num_pos' h
  have := pw_R (U := v.num.natAbs) (L := v.den) (by omega) (by have := v.den_nz; omega)
  have e : (((v.num.natAbs : Nat) : Int) : Rat) / (((v.den : Nat) : Int) : Rat) = v := by
    rw [show ((v.num.natAbs : Nat) : Int) = v.num by omega, Rat.intCast_natCast]
    rw [← Rat.mkRat_eq_div]
    exact Rat.mkRat_self v
  rw [e] at this
  exact this
def rwR (h : Hw) (v : Rat) : Rat := (tkR h (v * T (-(pR v))) : Rat) * T (pR v)
def rd1 (h : Hw) (v : Rat) : Option Rat := if T 41 ≤ rwR h v then none else if rwR h v < T (-40) then some (if h = .more then T (-40) else 0) else some (rwR h v)
def rdR (m : Mn) (v : Rat) : Option Rat := if v = 0 then some 0 else if v < 0 then (rd1 (m.by true) (-v)).map (fun r => -r) else rd1 (m.by false) v
def ExIs : Option (Int × Int) → Option Rat → Prop
  | none, none => True
  | some s, some r => NumOk s.1 s.2 ∧ vl s = r
  | _, _ => False
theorem T_7 : T 7 = ((10000000 : Int) : Rat) := by
  rw [show (7 : Int) = ((7 : Nat) : Int) from rfl, T_nat]; rfl
theorem T_8 : T 8 = ((100000000 : Int) : Rat) := by
  rw [show (8 : Int) = ((8 : Nat) : Int) from rfl, T_nat]; rfl
/-- scaled, it has eight figures -/
theorem sc_bound {v : Rat} {p : Int} (h : PwOf v p) : T 7 ≤ v * T (-p) ∧ v * T (-p) < T 8 := by
  obtain ⟨h1, h2⟩ := h
  have hp := T_pos (-p)
  have a1 := Rat.mul_le_mul_of_nonneg_right h1 (Rat.le_of_lt hp)
  have a2 := Rat.mul_lt_mul_of_pos_right h2 hp
  rw [← T_add] at a1 a2
  rw [show p + 7 + -p = 7 by omega] at a1
  rw [show p + 8 + -p = 8 by omega] at a2
  exact ⟨a1, a2⟩
theorem tk_range (h : Hw) {v : Rat} {p : Int} (hp : PwOf v p) : 10000000 ≤ tkR h (v * T (-p)) ∧ tkR h (v * T (-p)) ≤ 100000000 := by
  obtain ⟨h1, h2⟩ := sc_bound hp
  rw [T_7] at h1
  rw [T_8] at h2
  have f1 := Rat.le_floor_iff.mpr h1
  have f2 := Rat.floor_lt_iff.mpr h2
  have := tk_bound h (v * T (-p))
  omega
theorem fit_R (h : Hw) {w p : Int} (bl : Bool) (hw : 0 < w) : fitZ h w p bl = if T 41 ≤ vl (w, p) then none else if vl (w, p) < T (-40) then (if h = .more then some (sgZ bl, -40) else some (0, 0)) else some (sgZ bl * (strip 5000 w p).1, (strip 5000 w p).2) := by
  unfold fitZ
  rw [hg_strip 5000 w p hw]
  have a := hg_hi (b := p) hw 40
  have b := hg_lo (b := p) hw (-40)
  rw [show (40 : Int) + 1 = 41 from rfl] at a
  simp only [a, b]
theorem NumOk.neg {a b : Int} (h : NumOk a b) : NumOk (-a) b := by
  unfold NumOk at *
  rw [Int.natAbs_neg]
  omega
theorem NumOk.sg {a b : Int} (h : NumOk a b) (bl : Bool) : NumOk (sgZ bl * a) b := by
  cases bl with
  | false => rw [show sgZ false = 1 from rfl, Int.one_mul]; exact h
  | true => rw [show sgZ true = -1 from rfl, Int.neg_one_mul]; exact h.neg
theorem one_ok : NumOk 1 (-40) := .inr ⟨by decide, by decide, by decide, by decide +kernel, by decide +kernel⟩
theorem zero_ok : NumOk 0 0 := .inl ⟨rfl, rfl⟩
theorem strip_ok {w p : Int} (h1 : 0 < w) (h2 : w ≤ 100000000) (h3 : ¬ T 41 ≤ vl (w, p)) (h4 : ¬ vl (w, p) < T (-40)) : NumOk (strip 5000 w p).1 (strip 5000 w p).2 := by
  obtain ⟨a1, a2, _, _⟩ := strip_pos 5000 w p h1
  have b8 : w.natAbs < 10 ^ 9 := by omega
  have e := strip_end 5000 w p (by omega) (Nat.lt_of_lt_of_le b8 (pow10_le (by decide)))
  have hg := hg_strip 5000 w p h1
  have a := hg_hi (b := p) h1 40
  have b := hg_lo (b := p) h1 (-40)
  rw [show (40 : Int) + 1 = 41 from rfl] at a
  rw [← a] at h3
  rw [← b] at h4
  rw [← hg] at h3 h4
  unfold hgZ at h3 h4
  refine .inr ⟨by omega, e, by omega, by omega, by omega⟩
theorem ex_fit (h : Hw) {v : Rat} {p : Int} (bl : Bool) (hv : 0 < v) (hp : PwOf v p) : ExIs (fitZ h (tkR h (v * T (-p))) p bl) ((rd1 h v).map fun r => (sgZ bl : Rat) * r) := by
  have e := pw_uniq hp (pR_of hv)
  subst e
  obtain ⟨w1, w2⟩ := tk_range h hp
  rw [fit_R h bl (by omega)]
  have er : vl (tkR h (v * T (-(pR v))), pR v) = rwR h v := rfl
  rw [er]
  unfold rd1
  by_cases c1 : T 41 ≤ rwR h v
  · rw [if_pos c1, if_pos c1]; trivial
  · rw [if_neg c1, if_neg c1]
    by_cases c2 : rwR h v < T (-40)
    · rw [if_pos c2, if_pos c2]
      by_cases c3 : h = .more
      · rw [if_pos c3, if_pos c3]
        refine ⟨?_, rfl⟩
        have := one_ok.sg bl
        rwa [Int.mul_one] at this
      · rw [if_neg c3, if_neg c3]
        refine ⟨zero_ok, ?_⟩
        rw [vl_zero]
        exact (Rat.mul_zero _).symm
    · rw [if_neg c2, if_neg c2]
      refine ⟨(strip_ok (by omega) w2 (by rw [er]; exact c1) (by rw [er]; exact c2)).sg bl, ?_⟩
      show ((sgZ bl * (strip 5000 _ _).1 : Int) : Rat) * T (strip 5000 _ _).2 = _
      rw [Rat.intCast_mul, Rat.mul_assoc]
      have := vl_strip 5000 (tkR h (v * T (-(pR v)))) (pR v)
      rw [er] at this
      rw [← this]
      rfl
theorem ex_R (m : Mn) {u l : Int} (hl : l ≠ 0) : ExIs (exZ m u l) (rdR m ((u : Rat) / (l : Rat))) := by
  unfold exZ rdR
  by_cases h0 : u = 0
  · subst h0
    have : ((0 : Int) : Rat) / (l : Rat) = 0 := by rw [Rat.intCast_zero]; grind
    rw [if_pos rfl, this, if_pos rfl]
    exact ⟨zero_ok, vl_zero 0⟩
  · rw [if_neg h0]
    have hU : 0 < u.natAbs := by omega
    have hL : 0 < l.natAbs := by omega
    have hp := pw_R hU hL
    have fr := frac_T (U := u.natAbs) hL (pwN u.natAbs l.natAbs)
    have ul : (0 : Rat) < ((u.natAbs : Int) : Rat) := Rat.intCast_pos.mpr (by omega)
    have ll : (0 : Rat) < ((l.natAbs : Int) : Rat) := Rat.intCast_pos.mpr (by omega)
    have hv : (0 : Rat) < ((u.natAbs : Int) : Rat) / ((l.natAbs : Int) : Rat) := by
      rw [Rat.lt_div_iff ll, Rat.zero_mul]; exact ul
    have l0 : 0 < (l.natAbs : Int) * 10 ^ (pwN u.natAbs l.natAbs).toNat := Int.mul_pos (by omega) (by have := pow_ge1 (pwN u.natAbs l.natAbs).toNat; omega)
    have sv : (u : Rat) / (l : Rat) = (sgZ (decide (u < 0) != decide (l < 0)) : Rat) * (((u.natAbs : Int) : Rat) / ((l.natAbs : Int) : Rat)) := by
      by_cases c1 : u < 0 <;> by_cases c2 : l < 0
      · rw [decide_eq_true c1, decide_eq_true c2, show (u.natAbs : Int) = -u by omega, show (l.natAbs : Int) = -l by omega, Rat.intCast_neg, Rat.intCast_neg]
        show _ = ((1 : Int) : Rat) * _
        have : ((1 : Int) : Rat) = 1 := rfl
        grind
      · rw [decide_eq_true c1, decide_eq_false c2, show (u.natAbs : Int) = -u by omega, show (l.natAbs : Int) = l by omega, Rat.intCast_neg]
        show _ = ((-1 : Int) : Rat) * _
        have : ((-1 : Int) : Rat) = -1 := rfl
        grind
      · rw [decide_eq_false c1, decide_eq_true c2, show (u.natAbs : Int) = u by omega, show (l.natAbs : Int) = -l by omega, Rat.intCast_neg]
        show _ = ((-1 : Int) : Rat) * _
        have : ((-1 : Int) : Rat) = -1 := rfl
        grind
      · rw [decide_eq_false c1, decide_eq_false c2, show (u.natAbs : Int) = u by omega, show (l.natAbs : Int) = l by omega]
        show _ = ((1 : Int) : Rat) * _
        have : ((1 : Int) : Rat) = 1 := rfl
        grind
    rw [sv]
    simp only [taken_R _ l0, ← fr]
    generalize ((u.natAbs : Int) : Rat) / ((l.natAbs : Int) : Rat) = v at *
    generalize (decide (u < 0) != decide (l < 0)) = bl at *
    have q := ex_fit (m.by bl) bl hv hp
    cases bl with
    | false =>
      have e1 : (sgZ false : Rat) * v = v := by rw [show sgZ false = 1 from rfl]; exact Rat.one_mul v
      rw [e1, if_neg (by grind), if_neg (by grind)]
      have e2 : (rd1 (m.by false) v).map (fun r => (sgZ false : Rat) * r) = rd1 (m.by false) v := by
        cases rd1 (m.by false) v with
        | none => rfl
        | some r => exact congrArg some (Rat.one_mul r)
      rw [e2] at q
      exact q
    | true =>
      have e0 : (sgZ true : Rat) = -1 := rfl
      have e1 : (sgZ true : Rat) * v = -v := by rw [e0]; grind
      rw [e1, if_neg (by grind), if_pos (by grind), Rat.neg_neg]
      have e2 : (rd1 (m.by true) v).map (fun r => (sgZ true : Rat) * r) = (rd1 (m.by true) v).map (fun r => -r) := by
        congr 1
        funext r
        rw [e0]; grind
      rw [e2] at q
      exact q
/-! ### laws of rounding -/
def Mn.turn : Mn → Mn
  | .up => .down | .down => .up | .even => .even | .away => .away | .nought => .nought
theorem rw_range (h : Hw) {v : Rat} (hv : 0 < v) : T (pR v + 7) ≤ rwR h v ∧ rwR h v ≤ T (pR v + 8) := by
  obtain ⟨h1, h2⟩ := tk_range h (pR_of hv)
  have hp := Rat.le_of_lt (T_pos (pR v))
  unfold rwR
  rw [T_add, T_add, Rat.mul_comm (T (pR v)), Rat.mul_comm (T (pR v)), T_7, T_8]
  exact ⟨Rat.mul_le_mul_of_nonneg_right (Rat.intCast_le_intCast.mpr h1) hp, Rat.mul_le_mul_of_nonneg_right (Rat.intCast_le_intCast.mpr h2) hp⟩
theorem rw_pos (h : Hw) {v : Rat} (hv : 0 < v) : 0 < rwR h v := by
  have := (rw_range h hv).1
  have := T_pos (pR v + 7)
  grind
theorem rw_mono (h : Hw) {v v' : Rat} (hv : 0 < v) (hl : v ≤ v') : rwR h v ≤ rwR h v' := by
  have hv' : 0 < v' := by grind
  obtain ⟨a1, a2⟩ := pR_of hv
  obtain ⟨b1, b2⟩ := pR_of hv'
  have le : pR v + 7 < pR v' + 8 := T_lt_iff.mp (by grind)
  by_cases q : pR v = pR v'
  · unfold rwR
    rw [q]
    refine Rat.mul_le_mul_of_nonneg_right (Rat.intCast_le_intCast.mpr (tk_mono h ?_)) (Rat.le_of_lt (T_pos _))
    exact Rat.mul_le_mul_of_nonneg_right hl (Rat.le_of_lt (T_pos _))
  · have h1 := (rw_range h hv).2
    have h2 := (rw_range h hv').1
    have h3 := T_mono (show pR v + 8 ≤ pR v' + 7 by omega)
    grind
theorem rd1_pos (h : Hw) {v r : Rat} (hv : 0 < v) (e : rd1 h v = some r) : 0 ≤ r ∧ r < T 41 := by
  unfold rd1 at e
  have h1 := rw_pos h hv
  have h2 := T_pos (-40)
  have h3 := T_lt (show (-40 : Int) < 41 by decide)
  split at e
  · cases e
  · split at e
    · cases e
      split <;> grind
    · cases e
      grind
theorem rd1_mono (h : Hw) {v v' r' : Rat} (hv : 0 < v) (hl : v ≤ v') (e : rd1 h v' = some r') : ∃ r, rd1 h v = some r ∧ r ≤ r' := by
  have hm := rw_mono h hv hl
  have h1 := rw_pos h hv
  unfold rd1 at e ⊢
  split at e
  · cases e
  · rename_i c1
    rw [if_neg (show ¬ T 41 ≤ rwR h v by grind)]
    split at e
    · rename_i c2
      cases e
      rw [if_pos (show rwR h v < T (-40) by grind)]
      exact ⟨_, rfl, Rat.le_refl⟩
    · rename_i c2
      cases e
      split
      · refine ⟨_, rfl, ?_⟩
        have := T_pos (-40)
        split <;> grind
      · exact ⟨_, rfl, hm⟩
/-- of a greater one comes none that is less -/
theorem rd_mono (m : Mn) {v v' r r' : Rat} (hl : v ≤ v') (e : rdR m v = some r) (e' : rdR m v' = some r') : r ≤ r' := by
  unfold rdR at e e'
  by_cases a0 : v = 0
  · rw [if_pos a0] at e
    cases e
    by_cases b0 : v' = 0
    · rw [if_pos b0] at e'; cases e'; exact Rat.le_refl
    · rw [if_neg b0, if_neg (by grind)] at e'
      exact (rd1_pos _ (by grind) e').1
  · rw [if_neg a0] at e
    by_cases a1 : v < 0
    · rw [if_pos a1] at e
      obtain ⟨s, hs, rfl⟩ := Option.map_eq_some_iff.mp e
      have ps := (rd1_pos _ (by grind) hs).1
      by_cases b0 : v' = 0
      · rw [if_pos b0] at e'; cases e'; grind
      · rw [if_neg b0] at e'
        by_cases b1 : v' < 0
        · rw [if_pos b1] at e'
          obtain ⟨s', hs', rfl⟩ := Option.map_eq_some_iff.mp e'
          obtain ⟨z, hz, hle⟩ := rd1_mono _ (show 0 < -v' by grind) (show -v' ≤ -v by grind) hs
          rw [hs'] at hz
          cases hz
          grind
        · rw [if_neg b1] at e'
          have := (rd1_pos _ (by grind) e').1
          grind
    · rw [if_neg a1] at e
      rw [if_neg (by grind), if_neg (by grind)] at e'
      obtain ⟨z, hz, hle⟩ := rd1_mono _ (show 0 < v by grind) hl e'
      rw [e] at hz
      cases hz
      exact hle
/-! numbers are kept -/
theorem fix1 (h : Hw) {a b : Int} (ha : 0 < a) (ok : NumOk a b) : rd1 h (vl (a, b)) = some (vl (a, b)) := by
  rcases ok with ⟨z, _⟩ | ⟨_, _, h3, h4, h5⟩
  · omega
  have hv : 0 < vl (a, b) := Rat.mul_pos (Rat.intCast_pos.mpr ha) (T_pos b)
  obtain ⟨t1, t2⟩ := hg_T (b := b) ha
  have hp := pR_of hv
  have hh : hgZ (a, b) = b + (figs a.natAbs : Int) - 1 := rfl
  rw [← hh] at h4 h5
  have ep : pR (vl (a, b)) = hgZ (a, b) - 7 := pw_uniq hp ⟨by rw [show hgZ (a, b) - 7 + 7 = hgZ (a, b) by omega]; exact t1, by rw [show hgZ (a, b) - 7 + 8 = hgZ (a, b) + 1 by omega]; exact t2⟩
  have fl := figs_le (k := 8) (by decide) h3
  obtain ⟨n, hn⟩ := Int.eq_ofNat_of_zero_le (show 0 ≤ b - pR (vl (a, b)) by rw [ep, hh]; omega)
  have e1 : vl (a, b) * T (-(pR (vl (a, b)))) = ((a * 10 ^ n : Int) : Rat) := by
    rw [Rat.intCast_mul, ← T_nat, ← hn]
    show (a : Rat) * T b * T (-(pR (vl (a, b)))) = _
    rw [Rat.mul_assoc, ← T_add]
    rfl
  have er : rwR h (vl (a, b)) = vl (a, b) := by
    unfold rwR
    rw [e1, tk_int, ← e1, Rat.mul_assoc, ← T_add, show -(pR (vl (a, b))) + pR (vl (a, b)) = 0 by omega, T_zero, Rat.mul_one]
  unfold rd1
  rw [er, if_neg, if_neg]
  · have := T_mono h4
    grind
  · have := T_mono (show hgZ (a, b) + 1 ≤ 41 by omega)
    grind
theorem rd_fix (m : Mn) {a b : Int} (ok : NumOk a b) : rdR m (vl (a, b)) = some (vl (a, b)) := by
  by_cases h0 : a = 0
  · subst h0
    rw [vl_zero]
    exact if_pos rfl
  · unfold rdR
    have e : vl (-a, b) = -vl (a, b) := vl_neg (a, b)
    by_cases h1 : 0 < a
    · have hv : 0 < vl (a, b) := Rat.mul_pos (Rat.intCast_pos.mpr h1) (T_pos b)
      rw [if_neg (by grind), if_neg (by grind), fix1 _ h1 ok]
    · have hv : 0 < vl (-a, b) := Rat.mul_pos (Rat.intCast_pos.mpr (by omega)) (T_pos b)
      rw [if_neg (by grind), if_pos (by grind), ← e, fix1 _ (by omega) ok.neg, e]
      exact congrArg some (Rat.neg_neg _)
theorem num_inj {s t : Int × Int} (hs : NumOk s.1 s.2) (ht : NumOk t.1 t.2) (h : vl s = vl t) : s = t := by
  obtain ⟨a, b⟩ := s
  obtain ⟨c, d⟩ := t
  have key : ∀ a b : Int, a ≠ 0 → vl (a, b) ≠ 0 := fun a b ha z => by
    rcases Rat.mul_eq_zero.mp z with z | z
    · exact ha (Rat.intCast_eq_zero_iff.mp z)
    · have := T_pos b
      grind
  rcases hs with ⟨h1, h2⟩ | ⟨h1, h2, _⟩
  · rcases ht with ⟨g1, g2⟩ | ⟨g1, g2, _⟩
    · simp only at h1 h2 g1 g2
      rw [h1, h2, g1, g2]
    · simp only at h1
      subst h1
      rw [vl_zero] at h
      exact absurd h.symm (key _ _ g1)
  · rcases ht with ⟨g1, g2⟩ | ⟨g1, g2, _⟩
    · simp only at g1
      subst g1
      rw [vl_zero] at h
      exact absurd h (key _ _ h1)
    · exact vl_inj h2 g2 h
theorem ExIs.uniq {x y : Option (Int × Int)} {r : Option Rat} (hx : ExIs x r) (hy : ExIs y r) : x = y := by
  cases x with
  | none =>
    cases y with
    | none => rfl
    | some t => cases r <;> simp [ExIs] at hx hy
  | some s =>
    cases r with
    | none => exact hx.elim
    | some r =>
      cases y with
      | none => exact hy.elim
      | some t => exact congrArg some (num_inj hx.1 hy.1 (hx.2.trans hy.2.symm))
/-- the value alone tells -/
theorem ex_same (m : Mn) {u l u' l' : Int} (hl : l ≠ 0) (hl' : l' ≠ 0) (h : (u : Rat) / (l : Rat) = (u' : Rat) / (l' : Rat)) : exZ m u l = exZ m u' l' := by
  have a := ex_R m (u := u) hl
  have b := ex_R m (u := u') hl'
  rw [h] at a
  exact a.uniq b
theorem ex_fix (m : Mn) {u l a b : Int} (hl : l ≠ 0) (ok : NumOk a b) (h : (u : Rat) / (l : Rat) = vl (a, b)) : exZ m u l = some (a, b) := by
  have x := ex_R m (u := u) hl
  rw [h, rd_fix m ok] at x
  exact x.uniq ⟨ok, rfl⟩
theorem ex_some (m : Mn) {u l : Int} {s : Int × Int} (hl : l ≠ 0) (h : exZ m u l = some s) : NumOk s.1 s.2 ∧ rdR m ((u : Rat) / (l : Rat)) = some (vl s) := by
  have x := ex_R m (u := u) hl
  rw [h] at x
  cases y : rdR m ((u : Rat) / (l : Rat)) with
  | none => rw [y] at x; exact x.elim
  | some r => rw [y] at x; exact ⟨x.1, by rw [x.2]⟩
/-! down and up -/
theorem sc_back (v : Rat) (p : Int) : v * T (-p) * T p = v := by rw [Rat.mul_assoc, ← T_add, show -p + p = 0 by omega, T_zero, Rat.mul_one]
theorem rw_nought {v : Rat} (hv : 0 < v) : rwR .nought v ≤ v := by
  have : (tkR .nought (v * T (-(pR v))) : Rat) ≤ v * T (-(pR v)) := by
    unfold tkR
    split
    · exact Rat.floor_le _
    · exact Rat.floor_le _
  have := Rat.mul_le_mul_of_nonneg_right this (Rat.le_of_lt (T_pos (pR v)))
  rw [sc_back] at this
  exact this
theorem rw_more {v : Rat} (hv : 0 < v) : v ≤ rwR .more v := by
  have : v * T (-(pR v)) ≤ (tkR .more (v * T (-(pR v))) : Rat) := by
    unfold tkR
    split
    · rename_i e
      rw [← e]
      exact Rat.le_refl
    · exact Rat.le_of_lt (Rat.lt_floor_add_one _)
  have := Rat.mul_le_mul_of_nonneg_right this (Rat.le_of_lt (T_pos (pR v)))
  rw [sc_back] at this
  exact this
theorem rd1_nought {v r : Rat} (hv : 0 < v) (e : rd1 .nought v = some r) : r ≤ v := by
  have h := rw_nought hv
  unfold rd1 at e
  split at e
  · cases e
  · split at e
    · cases e
      rw [if_neg (by decide)]
      exact Rat.le_of_lt hv
    · cases e
      exact h
theorem rd1_more {v r : Rat} (hv : 0 < v) (e : rd1 .more v = some r) : v ≤ r := by
  have h := rw_more hv
  unfold rd1 at e
  split at e
  · cases e
  · split at e
    · cases e
      rw [if_pos rfl]
      grind
    · cases e
      exact h
theorem rd_down {v r : Rat} (e : rdR .down v = some r) : r ≤ v := by
  unfold rdR at e
  split at e
  · rename_i h; cases e; rw [h]; exact Rat.le_refl
  · split at e
    · obtain ⟨s, hs, rfl⟩ := Option.map_eq_some_iff.mp e
      have := rd1_more (by grind) hs
      grind
    · exact rd1_nought (by grind) e
theorem rd_up {v r : Rat} (e : rdR .up v = some r) : v ≤ r := by
  unfold rdR at e
  split at e
  · rename_i h; cases e; rw [h]; exact Rat.le_refl
  · split at e
    · obtain ⟨s, hs, rfl⟩ := Option.map_eq_some_iff.mp e
      have := rd1_nought (by grind) hs
      grind
    · exact rd1_more (by grind) e
/-! as functions of the value -/
def exV (m : Mn) (v : Rat) : Option (Int × Int) := exZ m v.num (v.den : Int)
theorem num_den (v : Rat) : ((v.num : Int) : Rat) / (((v.den : Nat) : Int) : Rat) = v := by
  rw [Rat.intCast_natCast, ← Rat.mkRat_eq_div]
  exact Rat.mkRat_self v
theorem den_ne (v : Rat) : ((v.den : Nat) : Int) ≠ 0 := by have := v.den_nz; omega
theorem ex_V (m : Mn) {u l : Int} (hl : l ≠ 0) : exZ m u l = exV m ((u : Rat) / (l : Rat)) := ex_same m hl (den_ne _) (num_den _).symm
theorem exV_is (m : Mn) (v : Rat) : ExIs (exV m v) (rdR m v) := by
  have := ex_R m (u := v.num) (den_ne v)
  rw [num_den] at this
  exact this
theorem exV_fix (m : Mn) {a b : Int} (ok : NumOk a b) : exV m (vl (a, b)) = some (a, b) := ex_fix m (den_ne _) ok (num_den _)
theorem exV_some {m : Mn} {v : Rat} {s : Int × Int} (h : exV m v = some s) : NumOk s.1 s.2 ∧ rdR m v = some (vl s) := by
  have := ex_some m (den_ne v) h
  rw [num_den] at this
  exact this
theorem exV_none {m : Mn} {v : Rat} (h : exV m v = none) : rdR m v = none := by
  have := exV_is m v
  rw [h] at this
  cases e : rdR m v with
  | none => rfl
  | some r => rw [e] at this; exact this.elim
theorem exV_mono {m : Mn} {v v' : Rat} {s s' : Int × Int} (hl : v ≤ v') (h : exV m v = some s) (h' : exV m v' = some s') : vl s ≤ vl s' := rd_mono m hl (exV_some h).2 (exV_some h').2
theorem exV_down {v : Rat} {s : Int × Int} (h : exV .down v = some s) : vl s ≤ v := rd_down (exV_some h).2
theorem exV_up {v : Rat} {s : Int × Int} (h : exV .up v = some s) : v ≤ vl s := rd_up (exV_some h).2
theorem vl_int (n : Int) : vl (n, 0) = (n : Rat) := by
  show (n : Rat) * T 0 = n
  rw [T_zero, Rat.mul_one]
theorem vl_at {a b p : Int} (h : p ≤ b) : vl (a, b) = ((a * 10 ^ (b - p).toNat : Int) : Rat) * T p := by
  unfold vl
  simp only
  rw [Rat.intCast_mul, ← T_nat, Rat.mul_assoc, ← T_add]
  congr 2
  omega
theorem frac_val (u p : Int) : ((u * 10 ^ p.toNat : Int) : Rat) / ((10 ^ (-p).toNat : Int) : Rat) = (u : Rat) * T p := by
  rw [Rat.intCast_mul, ← T_nat, ← T_nat]
  have e : T p * T ((-p).toNat : Int) = T (p.toNat : Int) := by rw [← T_add]; congr 1; omega
  have h := T_pos ((-p).toNat : Int)
  rw [← e, ← Rat.mul_assoc, Rat.mul_div_cancel (by grind)]
end LW
namespace LW
open PySem PySem.Spec PyProof.Rows L2 DN
/-! ### a sign sought in a text -/
end LW
namespace LW
open PySem PySem.Spec PyProof.Rows L2 DN
open TL (numL numL_lt numL_step numL_digits numL_ne tl_num)
open NumText (AllDigits digitsVal)
local macro_rules | `(tactic| walk_at "ev") => `(tactic| simp -implicitDefEqProofs (disch := first | omega | (simp only [List.length_cons, List.length_nil]; omega)) only [mkTR_ok, mkLR_ok, ix_tm, ix_lm, ix_t0, ix_t1, ix_t2, ix_t3, ix_t4, ix_t5, ix_t6, ix_t7, ix_l0, ix_l1, ix_l2, ix_l3, ix_l4, ix_l5, ix_l6, ix_l7, bin_def, una_def, cal_def, acons_def, anil_def, con_def, callD_def, tst_def, sseq_def, sret_def, sasg_def, sif_def, sskip_def, sraise_def, andQ_def, orQ_def, notQ_def, andE_def, orE_def, notE_def, mkT_def, mkL_def, slc_def, psm_def, pno_def, sfor_def, chn_def, var_zero, var_succ, app2_ok, app1_ok, appL_ok, consR_ok, ofO_some, call0, call1, call2, call3, call4, call5, tstR_ok, seqR_nx, seqR_rt, seqR_ex, retR_ok, retR_ex, asgR_n, asgR_ex, asgR_2, asgR_2L, asgR_3, ifR_t, ifR_f, finR_rt, finR_nx, finR_ex, andR_t, andR_f, orR_t, orR_f, notR_ok, andER_t, andER_f, orER_t, orER_f, notER_ok, psmR_ok, slcR_ok, forR_ok, chn_le, chn_lt, add_ii, sub_ii, neg_i, lt_ii, le_ii, gt_ii, ge_ii, eq_ii, ne_ii, eq_ss, ne_ss, eq_bb, ne_bb, mul_l, mul_r, div_s, mod_p, len_t, len_l, len_a, abs_i, max_ii, min_ii, int_i, int_b, int_t, int_f, List.set_cons_zero, List.set_cons_succ, Bool.not_true, Bool.not_false, decide_true, decide_false, sown_def, ownRR_ok, frz_lst, frz_z, frz_u, frz_succ, sfrz_def, bor_def, borQ_def, flat_i, flat_s, flat_b, flat_n, own_zero, own_succ, sapp_def, sput_def, ixO_def])
local macro_rules | `(tactic| simp?! [$ls,*]) => `(tactic| simp -implicitDefEqProofs (disch := first | omega | (simp only [List.length_cons, List.length_nil]; omega)) only [mkTR_ok, mkLR_ok, ix_tm, ix_lm, ix_t0, ix_t1, ix_t2, ix_t3, ix_t4, ix_t5, ix_t6, ix_t7, ix_l0, ix_l1, ix_l2, ix_l3, ix_l4, ix_l5, ix_l6, ix_l7, bin_def, una_def, cal_def, acons_def, anil_def, con_def, callD_def, tst_def, sseq_def, sret_def, sasg_def, sif_def, sskip_def, sraise_def, andQ_def, orQ_def, notQ_def, andE_def, orE_def, notE_def, mkT_def, mkL_def, slc_def, psm_def, pno_def, sfor_def, chn_def, var_zero, var_succ, app2_ok, app1_ok, appL_ok, consR_ok, ofO_some, call0, call1, call2, call3, call4, call5, tstR_ok, seqR_nx, seqR_rt, seqR_ex, retR_ok, retR_ex, asgR_n, asgR_ex, asgR_2, asgR_2L, asgR_3, ifR_t, ifR_f, finR_rt, finR_nx, finR_ex, andR_t, andR_f, orR_t, orR_f, notR_ok, andER_t, andER_f, orER_t, orER_f, notER_ok, psmR_ok, slcR_ok, forR_ok, chn_le, chn_lt, add_ii, sub_ii, neg_i, lt_ii, le_ii, gt_ii, ge_ii, eq_ii, ne_ii, eq_ss, ne_ss, eq_bb, ne_bb, mul_l, mul_r, div_s, mod_p, len_t, len_l, len_a, abs_i, max_ii, min_ii, int_i, int_b, int_t, int_f, List.set_cons_zero, List.set_cons_succ, Bool.not_true, Bool.not_false, decide_true, decide_false, sown_def, ownRR_ok, frz_lst, frz_z, frz_u, frz_succ, sfrz_def, bor_def, borQ_def, flat_i, flat_s, flat_b, flat_n, own_zero, own_succ, sapp_def, sput_def, ixO_def, $ls,*])
def N_ten : List Str := ["power"]
def g_ten : Rho → SR :=
  (sret (cal intD (acons (bop addD (con (.str "1")) (bop mulD (con (.str "0")) (var 0))) anil)))
def d_ten (ds : List D) : Res D := runB 1 g_ten ds
theorem v_ten {a0 : D} : d_ten [a0] = finR (g_ten [.z a0]) := runB_eq rfl
def N_figures_of : List Str := ["whole"]
def g_figures_of : Rho → SR :=
  (sret (cal lenD (acons (cal strD (acons (cal absD (acons (var 0) anil)) anil)) anil)))
def d_figures_of (ds : List D) : Res D := runB 1 g_figures_of ds
theorem v_figures_of {a0 : D} : d_figures_of [a0] = finR (g_figures_of [.z a0]) := runB_eq rfl
def N_height : List Str := ["number"]
def g_height : Rho → SR :=
  (sret (bop subD (bop addD (bop ixD (var 0) (con (.int 1))) (callD 1 d_figures_of (acons (bop ixD (var 0) (con (.int 0))) anil))) (con (.int 1))))
def d_height (ds : List D) : Res D := runB 1 g_height ds
theorem v_height {a0 : D} : d_height [a0] = finR (g_height [.z a0]) := runB_eq rfl
def N__law_cell_at : List Str := ["script", "k"]
def t1__law_cell_at : Rho → SR :=
  (sret (con (.int 0)))
def g__law_cell_at : Rho → SR :=
  sseq (sif (tst (bop ltD (var 1) (cal lenD (acons (var 0) anil)))) (sret (bop ixD (var 0) (var 1))) sskip) (t1__law_cell_at)
def d__law_cell_at (ds : List D) : Res D := runB 2 g__law_cell_at ds
theorem v__law_cell_at {a0 a1 : D} : d__law_cell_at [a0, a1] = finR (g__law_cell_at [.z a0, .z a1]) := runB_eq rfl
def N__law_mixed : List Str := ["script", "k", "drawn"]
def t1__law_mixed : Rho → SR :=
  (sret (bop modD (bop addD (bop addD (bop mulD (var 2) (var 2)) (bop mulD (con (.int 7)) (var 2))) (var 1)) (con (.int 2147483629))))
def g__law_mixed : Rho → SR :=
  sseq (sasg (bop modD (bop mulD (bop addD (bop addD (callD 2 d__law_cell_at (acons (var 0) (acons (var 1) anil))) (bop mulD (con (.int 7919)) (var 1))) (con (.int 1))) (con (.int 48271))) (con (.int 2147483647))) (gn 2)) (t1__law_mixed)
def d__law_mixed (ds : List D) : Res D := runB 3 g__law_mixed ds
theorem v__law_mixed {a0 a1 : D} : d__law_mixed [a0, a1] = finR (g__law_mixed [.z a0, .z a1, .u]) := runB_eq rfl
def N__law_drawn : List Str := ["number", "k", "drawn"]
def t1__law_drawn : Rho → SR :=
  (sret (bop modD (bop addD (bop addD (bop mulD (var 2) (var 2)) (bop mulD (con (.int 3)) (var 2))) (var 1)) (con (.int 2147483629))))
def g__law_drawn : Rho → SR :=
  sseq (sasg (bop modD (bop mulD (bop addD (bop addD (var 0) (bop mulD (con (.int 104729)) (var 1))) (con (.int 17))) (con (.int 69621))) (con (.int 2147483647))) (gn 2)) (t1__law_drawn)
def d__law_drawn (ds : List D) : Res D := runB 3 g__law_drawn ds
theorem v__law_drawn {a0 a1 : D} : d__law_drawn [a0, a1] = finR (g__law_drawn [.z a0, .z a1, .u]) := runB_eq rfl
def N__law_tidy : List Str := ["digits", "power"]
def c1__law_tidy : Rho → Res Bool :=
  (tst (bop eqD (bop modD (var 0) (con (.int 10))) (con (.int 0))))
def b2__law_tidy : Rho → SR :=
  (sseq (sasg (bop divD (var 0) (con (.int 10))) (gn 0))
    (sasg (bop addD (var 1) (con (.int 1))) (gn 1)))
def t2__law_tidy : Rho → SR :=
  (sret (mkT (acons (var 0) (acons (var 1) anil))))
def t1__law_tidy : Rho → SR :=
  sseq (whileD c1__law_tidy b2__law_tidy 100000) (t2__law_tidy)
def g__law_tidy : Rho → SR :=
  sseq (sif (tst (bop eqD (var 0) (con (.int 0)))) (sret (mkT (acons (con (.int 0)) (acons (con (.int 0)) anil)))) sskip) (t1__law_tidy)
def d__law_tidy (ds : List D) : Res D := runB 2 g__law_tidy ds
theorem v__law_tidy {a0 a1 : D} : d__law_tidy [a0, a1] = finR (g__law_tidy [.z a0, .z a1]) := runB_eq rfl
def N_taken : List Str := ["whole", "rest", "lower", "manner"]
def t3_taken : Rho → SR :=
  (sret (bop addD (var 0) (cal intD (acons (bop gtD (bop mulD (con (.int 2)) (var 1)) (var 2)) anil))))
def t2_taken : Rho → SR :=
  sseq (sif (tst (bop eqD (bop mulD (con (.int 2)) (var 1)) (var 2))) (sret (bop addD (var 0) (cal intD (acons (orE (bop eqD (var 3) (con (.str "away"))) (bop eqD (bop modD (var 0) (con (.int 2))) (con (.int 1)))) anil)))) sskip) (t3_taken)
def t1_taken : Rho → SR :=
  sseq (sif (tst (bop eqD (var 3) (con (.str "more")))) (sret (bop addD (var 0) (con (.int 1)))) sskip) (t2_taken)
def g_taken : Rho → SR :=
  sseq (sif (orQ (tst (bop eqD (var 1) (con (.int 0)))) (tst (bop eqD (var 3) (con (.str "nought"))))) (sret (var 0)) sskip) (t1_taken)
def d_taken (ds : List D) : Res D := runB 4 g_taken ds
theorem v_taken {a0 a1 a2 a3 : D} : d_taken [a0, a1, a2, a3] = finR (g_taken [.z a0, .z a1, .z a2, .z a3]) := runB_eq rfl
def N_by_size : List Str := ["manner", "below"]
def t2_by_size : Rho → SR :=
  (sret (var 0))
def t1_by_size : Rho → SR :=
  sseq (sif (tst (bop eqD (var 0) (con (.str "down")))) (sret (bop ixD (mkL (acons (con (.str "nought")) (acons (con (.str "more")) anil))) (cal intD (acons (var 1) anil)))) sskip) (t2_by_size)
def g_by_size : Rho → SR :=
  sseq (sif (tst (bop eqD (var 0) (con (.str "up")))) (sret (bop ixD (mkL (acons (con (.str "more")) (acons (con (.str "nought")) anil))) (cal intD (acons (var 1) anil)))) sskip) (t1_by_size)
def d_by_size (ds : List D) : Res D := runB 2 g_by_size ds
theorem v_by_size {a0 a1 : D} : d_by_size [a0, a1] = finR (g_by_size [.z a0, .z a1]) := runB_eq rfl
def N_fitted : List Str := ["whole", "power", "below", "manner", "sign"]
def c1_fitted : Rho → Res Bool :=
  (tst (bop eqD (bop modD (var 0) (con (.int 10))) (con (.int 0))))
def b2_fitted : Rho → SR :=
  (sseq (sasg (bop divD (var 0) (con (.int 10))) (gn 0))
    (sasg (bop addD (var 1) (con (.int 1))) (gn 1)))
def t5_fitted : Rho → SR :=
  (sret (mkT (acons (bop mulD (var 4) (var 0)) (acons (var 1) anil))))
def t4_fitted : Rho → SR :=
  sseq (sif (tst (bop ltD (callD 1 d_height (acons (mkT (acons (var 0) (acons (var 1) anil))) anil)) (una negD (con (.int 40))))) (sseq (sif (tst (bop eqD (var 3) (con (.str "more")))) (sret (mkT (acons (var 4) (acons (una negD (con (.int 40))) anil)))) sskip)
    (sret (mkT (acons (con (.int 0)) (acons (con (.int 0)) anil))))) sskip) (t5_fitted)
def t3_fitted : Rho → SR :=
  sseq (sif (tst (bop gtD (callD 1 d_height (acons (mkT (acons (var 0) (acons (var 1) anil))) anil)) (con (.int 40)))) (sraise "TooGreat") sskip) (t4_fitted)
def t2_fitted : Rho → SR :=
  sseq (sasg (bop subD (con (.int 1)) (bop mulD (con (.int 2)) (cal intD (acons (var 2) anil)))) (gn 4)) (t3_fitted)
def t1_fitted : Rho → SR :=
  sseq (whileD c1_fitted b2_fitted 100000) (t2_fitted)
def g_fitted : Rho → SR :=
  sseq (sif (tst (bop eqD (var 0) (con (.int 0)))) (sret (mkT (acons (con (.int 0)) (acons (con (.int 0)) anil)))) sskip) (t1_fitted)
def d_fitted (ds : List D) : Res D := runB 5 g_fitted ds
theorem v_fitted {a0 a1 a2 a3 : D} : d_fitted [a0, a1, a2, a3] = finR (g_fitted [.z a0, .z a1, .z a2, .z a3, .u]) := runB_eq rfl
def N_power_for : List Str := ["upper", "lower", "power"]
def c1_power_for : Rho → Res Bool :=
  (tst (bop geD (bop mulD (var 0) (callD 1 d_ten (acons (cal maxD (acons (una negD (var 2)) (acons (con (.int 0)) anil))) anil))) (bop mulD (bop mulD (var 1) (callD 1 d_ten (acons (cal maxD (acons (var 2) (acons (con (.int 0)) anil))) anil))) (callD 1 d_ten (acons (con (.int 8)) anil)))))
def b2_power_for : Rho → SR :=
  (sasg (bop addD (var 2) (con (.int 1))) (gn 2))
def t2_power_for : Rho → SR :=
  (sret (var 2))
def t1_power_for : Rho → SR :=
  sseq (whileD c1_power_for b2_power_for 100000) (t2_power_for)
def g_power_for : Rho → SR :=
  sseq (sasg (bop subD (bop subD (callD 1 d_figures_of (acons (var 0) anil)) (callD 1 d_figures_of (acons (var 1) anil))) (con (.int 8))) (gn 2)) (t1_power_for)
def d_power_for (ds : List D) : Res D := runB 3 g_power_for ds
theorem v_power_for {a0 a1 : D} : d_power_for [a0, a1] = finR (g_power_for [.z a0, .z a1, .u]) := runB_eq rfl
def N_exact : List Str := ["upper", "lower", "manner", "below", "power", "how"]
def t8_exact : Rho → SR :=
  (sret (callD 4 d_fitted (acons (callD 4 d_taken (acons (bop divD (var 0) (var 1)) (acons (bop modD (var 0) (var 1)) (acons (var 1) (acons (var 5) anil))))) (acons (var 4) (acons (var 3) (acons (var 5) anil))))))
def t7_exact : Rho → SR :=
  sseq (sasg (callD 2 d_by_size (acons (var 2) (acons (var 3) anil))) (gn 5)) (t8_exact)
def t6_exact : Rho → SR :=
  sseq (sasg (bop mulD (var 1) (callD 1 d_ten (acons (cal maxD (acons (var 4) (acons (con (.int 0)) anil))) anil))) (gn 1)) (t7_exact)
def t5_exact : Rho → SR :=
  sseq (sasg (bop mulD (var 0) (callD 1 d_ten (acons (cal maxD (acons (una negD (var 4)) (acons (con (.int 0)) anil))) anil))) (gn 0)) (t6_exact)
def t4_exact : Rho → SR :=
  sseq (sasg (callD 2 d_power_for (acons (var 0) (acons (var 1) anil))) (gn 4)) (t5_exact)
def t3_exact : Rho → SR :=
  sseq (sasg (cal absD (acons (var 1) anil)) (gn 1)) (t4_exact)
def t2_exact : Rho → SR :=
  sseq (sasg (cal absD (acons (var 0) anil)) (gn 0)) (t3_exact)
def t1_exact : Rho → SR :=
  sseq (sasg (bop neD (bop ltD (var 0) (con (.int 0))) (bop ltD (var 1) (con (.int 0)))) (gn 3)) (t2_exact)
def g_exact : Rho → SR :=
  sseq (sif (tst (bop eqD (var 0) (con (.int 0)))) (sret (mkT (acons (con (.int 0)) (acons (con (.int 0)) anil)))) sskip) (t1_exact)
def d_exact (ds : List D) : Res D := runB 6 g_exact ds
theorem v_exact {a0 a1 a2 : D} : d_exact [a0, a1, a2] = finR (g_exact [.z a0, .z a1, .z a2, .u, .u, .u]) := runB_eq rfl
def N__law_ten : List Str := ["power", "found", "k"]
def b1__law_ten : Rho → SR :=
  (sasg (bop mulD (var 1) (con (.int 10))) (gn 1))
def t2__law_ten : Rho → SR :=
  (sret (var 1))
def t1__law_ten : Rho → SR :=
  sseq (sfor (rng1 (acons (var 0) anil)) (gn 2) b1__law_ten) (t2__law_ten)
def g__law_ten : Rho → SR :=
  sseq (sasg (con (.int 1)) (gn 1)) (t1__law_ten)
def d__law_ten (ds : List D) : Res D := runB 3 g__law_ten ds
theorem v__law_ten {a0 : D} : d__law_ten [a0] = finR (g__law_ten [.z a0, .u, .u]) := runB_eq rfl
def N_level : List Str := ["one", "other", "power"]
def t1_level : Rho → SR :=
  (sret (mkT (acons (bop mulD (bop ixD (var 0) (con (.int 0))) (callD 1 d_ten (acons (bop subD (bop ixD (var 0) (con (.int 1))) (var 2)) anil))) (acons (bop mulD (bop ixD (var 1) (con (.int 0))) (callD 1 d_ten (acons (bop subD (bop ixD (var 1) (con (.int 1))) (var 2)) anil))) (acons (var 2) anil)))))
def g_level : Rho → SR :=
  sseq (sasg (cal minD (acons (bop ixD (var 0) (con (.int 1))) (acons (bop ixD (var 1) (con (.int 1))) anil))) (gn 2)) (t1_level)
def d_level (ds : List D) : Res D := runB 3 g_level ds
theorem v_level {a0 a1 : D} : d_level [a0, a1] = finR (g_level [.z a0, .z a1, .u]) := runB_eq rfl
def N_of_power : List Str := ["whole", "power", "manner"]
def g_of_power : Rho → SR :=
  (sret (callD 3 d_exact (acons (bop mulD (var 0) (callD 1 d_ten (acons (cal maxD (acons (var 1) (acons (con (.int 0)) anil))) anil))) (acons (callD 1 d_ten (acons (cal maxD (acons (una negD (var 1)) (acons (con (.int 0)) anil))) anil)) (acons (var 2) anil)))))
def d_of_power (ds : List D) : Res D := runB 3 g_of_power ds
theorem v_of_power {a0 a1 a2 : D} : d_of_power [a0, a1, a2] = finR (g_of_power [.z a0, .z a1, .z a2]) := runB_eq rfl
def N_plus : List Str := ["one", "other", "manner", "left", "right", "power"]
def t1_plus : Rho → SR :=
  (sret (callD 3 d_of_power (acons (bop addD (var 3) (var 4)) (acons (var 5) (acons (var 2) anil)))))
def g_plus : Rho → SR :=
  sseq (sasg (callD 2 d_level (acons (var 0) (acons (var 1) anil))) (gt 3 (gsc (gn 3) (gsc (gn 4) (gsc (gn 5) gsn))))) (t1_plus)
def d_plus (ds : List D) : Res D := runB 6 g_plus ds
theorem v_plus {a0 a1 a2 : D} : d_plus [a0, a1, a2] = finR (g_plus [.z a0, .z a1, .z a2, .u, .u, .u]) := runB_eq rfl
def N_turned : List Str := ["one"]
def g_turned : Rho → SR :=
  (sret (mkT (acons (una negD (bop ixD (var 0) (con (.int 0)))) (acons (bop ixD (var 0) (con (.int 1))) anil))))
def d_turned (ds : List D) : Res D := runB 1 g_turned ds
theorem v_turned {a0 : D} : d_turned [a0] = finR (g_turned [.z a0]) := runB_eq rfl
def N_minus : List Str := ["one", "other", "manner"]
def g_minus : Rho → SR :=
  (sret (callD 3 d_plus (acons (var 0) (acons (callD 1 d_turned (acons (var 1) anil)) (acons (var 2) anil)))))
def d_minus (ds : List D) : Res D := runB 3 g_minus ds
theorem v_minus {a0 a1 a2 : D} : d_minus [a0, a1, a2] = finR (g_minus [.z a0, .z a1, .z a2]) := runB_eq rfl
def N_less : List Str := ["one", "other", "left", "right", "power"]
def t1_less : Rho → SR :=
  (sret (bop ltD (var 2) (var 3)))
def g_less : Rho → SR :=
  sseq (sasg (callD 2 d_level (acons (var 0) (acons (var 1) anil))) (gt 3 (gsc (gn 2) (gsc (gn 3) (gsc (gn 4) gsn))))) (t1_less)
def d_less (ds : List D) : Res D := runB 5 g_less ds
theorem v_less {a0 a1 : D} : d_less [a0, a1] = finR (g_less [.z a0, .z a1, .u, .u, .u]) := runB_eq rfl
def N_plus_of : List Str := ["one", "other"]
def g_plus_of : Rho → SR :=
  (sret (mkT (acons (callD 3 d_plus (acons (bop ixD (var 0) (con (.int 0))) (acons (bop ixD (var 1) (con (.int 0))) (acons (con (.str "down")) anil)))) (acons (callD 3 d_plus (acons (bop ixD (var 0) (con (.int 1))) (acons (bop ixD (var 1) (con (.int 1))) (acons (con (.str "up")) anil)))) anil))))
def d_plus_of (ds : List D) : Res D := runB 2 g_plus_of ds
theorem v_plus_of {a0 a1 : D} : d_plus_of [a0, a1] = finR (g_plus_of [.z a0, .z a1]) := runB_eq rfl
def N_minus_of : List Str := ["one", "other"]
def g_minus_of : Rho → SR :=
  (sret (mkT (acons (callD 3 d_minus (acons (bop ixD (var 0) (con (.int 0))) (acons (bop ixD (var 1) (con (.int 1))) (acons (con (.str "down")) anil)))) (acons (callD 3 d_minus (acons (bop ixD (var 0) (con (.int 1))) (acons (bop ixD (var 1) (con (.int 0))) (acons (con (.str "up")) anil)))) anil))))
def d_minus_of (ds : List D) : Res D := runB 2 g_minus_of ds
theorem v_minus_of {a0 a1 : D} : d_minus_of [a0, a1] = finR (g_minus_of [.z a0, .z a1]) := runB_eq rfl
def N_is_less_product : List Str := ["one", "other"]
def g_is_less_product : Rho → SR :=
  (sret (callD 2 d_less (acons (mkT (acons (bop mulD (bop ixD (bop ixD (var 0) (con (.int 0))) (con (.int 0))) (bop ixD (bop ixD (var 0) (con (.int 1))) (con (.int 0)))) (acons (bop addD (bop ixD (bop ixD (var 0) (con (.int 0))) (con (.int 1))) (bop ixD (bop ixD (var 0) (con (.int 1))) (con (.int 1)))) anil))) (acons (mkT (acons (bop mulD (bop ixD (bop ixD (var 1) (con (.int 0))) (con (.int 0))) (bop ixD (bop ixD (var 1) (con (.int 1))) (con (.int 0)))) (acons (bop addD (bop ixD (bop ixD (var 1) (con (.int 0))) (con (.int 1))) (bop ixD (bop ixD (var 1) (con (.int 1))) (con (.int 1)))) anil))) anil))))
def d_is_less_product (ds : List D) : Res D := runB 2 g_is_less_product ds
theorem v_is_less_product {a0 a1 : D} : d_is_less_product [a0, a1] = finR (g_is_less_product [.z a0, .z a1]) := runB_eq rfl
def N_product : List Str := ["pair", "manner"]
def g_product : Rho → SR :=
  (sret (callD 3 d_of_power (acons (bop mulD (bop ixD (bop ixD (var 0) (con (.int 0))) (con (.int 0))) (bop ixD (bop ixD (var 0) (con (.int 1))) (con (.int 0)))) (acons (bop addD (bop ixD (bop ixD (var 0) (con (.int 0))) (con (.int 1))) (bop ixD (bop ixD (var 0) (con (.int 1))) (con (.int 1)))) (acons (var 1) anil)))))
def d_product (ds : List D) : Res D := runB 2 g_product ds
theorem v_product {a0 a1 : D} : d_product [a0, a1] = finR (g_product [.z a0, .z a1]) := runB_eq rfl
def N_times_of : List Str := ["one", "other", "low", "high", "pair"]
def b1_times_of : Rho → SR :=
  (sseq (sif (tst (callD 2 d_is_less_product (acons (var 4) (acons (var 2) anil)))) (sasg (var 4) (gn 2)) sskip)
    (sif (tst (callD 2 d_is_less_product (acons (var 3) (acons (var 4) anil)))) (sasg (var 4) (gn 3)) sskip))
def t3_times_of : Rho → SR :=
  (sret (mkT (acons (callD 2 d_product (acons (var 2) (acons (con (.str "down")) anil))) (acons (callD 2 d_product (acons (var 3) (acons (con (.str "up")) anil))) anil))))
def t2_times_of : Rho → SR :=
  sseq (sfor (its (mkT (acons (mkT (acons (bop ixD (var 0) (con (.int 0))) (acons (bop ixD (var 1) (con (.int 1))) anil))) (acons (mkT (acons (bop ixD (var 0) (con (.int 1))) (acons (bop ixD (var 1) (con (.int 0))) anil))) (acons (mkT (acons (bop ixD (var 0) (con (.int 1))) (acons (bop ixD (var 1) (con (.int 1))) anil))) anil))))) (gn 4) b1_times_of) (t3_times_of)
def t1_times_of : Rho → SR :=
  sseq (sasg (var 2) (gn 3)) (t2_times_of)
def g_times_of : Rho → SR :=
  sseq (sasg (mkT (acons (bop ixD (var 0) (con (.int 0))) (acons (bop ixD (var 1) (con (.int 0))) anil))) (gn 2)) (t1_times_of)
def d_times_of (ds : List D) : Res D := runB 5 g_times_of ds
theorem v_times_of {a0 a1 : D} : d_times_of [a0, a1] = finR (g_times_of [.z a0, .z a1, .u, .u, .u]) := runB_eq rfl
def N__law_level : List Str := ["number"]
def g__law_level : Rho → SR :=
  (sret (bop mulD (bop ixD (var 0) (con (.int 0))) (callD 1 d__law_ten (acons (bop addD (bop ixD (var 0) (con (.int 1))) (con (.int 50))) anil))))
def d__law_level (ds : List D) : Res D := runB 1 g__law_level ds
theorem v__law_level {a0 : D} : d__law_level [a0] = finR (g__law_level [.z a0]) := runB_eq rfl
def N__law_formula : List Str := ["number", "deep", "one", "other"]
def t4__law_formula (rec : List D → Res D) : Rho → SR :=
  (sret (mkT (acons (bop ixD (mkT (acons (con (.str "plus")) (acons (con (.str "minus")) (acons (con (.str "times")) anil)))) (bop modD (bop divD (var 0) (con (.int 8))) (con (.int 3)))) (acons (var 2) (acons (var 3) anil)))))
def t3__law_formula (rec : List D → Res D) : Rho → SR :=
  sseq (sasg (callD 2 rec (acons (bop divD (callD 2 d__law_drawn (acons (var 0) (acons (con (.int 2)) anil))) (con (.int 4))) (acons (bop subD (bop subD (var 1) (con (.int 1))) (bop mulD (bop modD (bop divD (var 0) (con (.int 16))) (con (.int 2))) (cal intD (acons (bop gtD (var 1) (con (.int 2))) anil)))) anil))) (gn 3)) (t4__law_formula rec)
def t2__law_formula (rec : List D → Res D) : Rho → SR :=
  sseq (sif (tst (bop eqD (bop modD (var 0) (con (.int 7))) (con (.int 1)))) (sret (mkT (acons (con (.str "sign")) (acons (var 2) anil)))) sskip) (t3__law_formula rec)
def t1__law_formula (rec : List D → Res D) : Rho → SR :=
  sseq (sasg (callD 2 rec (acons (bop divD (callD 2 d__law_drawn (acons (var 0) (acons (con (.int 1)) anil))) (con (.int 4))) (acons (bop subD (var 1) (con (.int 1))) anil))) (gn 2)) (t2__law_formula rec)
def g__law_formula (rec : List D → Res D) : Rho → SR :=
  sseq (sif (orQ (tst (bop eqD (var 1) (con (.int 1)))) (tst (bop eqD (bop modD (var 0) (con (.int 7))) (con (.int 0))))) (sret (bop ixD (mkL (acons (mkT (acons (con (.str "name")) (acons (bop modD (bop divD (var 0) (con (.int 7))) (con (.int 3))) anil))) (acons (mkT (acons (con (.str "number")) (acons (bop modD (bop divD (var 0) (con (.int 7))) (con (.int 10))) anil))) anil))) (bop modD (bop divD (var 0) (con (.int 64))) (con (.int 2))))) sskip) (t1__law_formula rec)
def d__law_formula : Nat → List D → Res D
  | 0 => fun _ => .bad
  | n + 1 => runB 4 (g__law_formula (d__law_formula n))
theorem v__law_formula {a0 a1 : D} {n : Nat} : d__law_formula (n + 1) [a0, a1] = finR (g__law_formula (d__law_formula n) [.z a0, .z a1, .u, .u]) := runB_eq rfl
def N__law_value : List Str := ["formula", "boxes", "some", "part"]
def e1__law_value (rec : List D → Res D) : Rho → Res D :=
  (callD 2 rec (acons (var 3) (acons (var 1) anil)))
def t4__law_value (rec : List D → Res D) : Rho → SR :=
  (sret (dixD ["plus", "minus", "times"] (acons (bop addD (bop ixD (var 2) (con (.int 0))) (bop ixD (var 2) (con (.int 1)))) (acons (bop subD (bop ixD (var 2) (con (.int 0))) (bop ixD (var 2) (con (.int 1)))) (acons (bop mulD (bop ixD (var 2) (con (.int 0))) (bop ixD (var 2) (con (.int 1)))) anil))) (bop ixD (var 0) (con (.int 0)))))
def t3__law_value (rec : List D → Res D) : Rho → SR :=
  sseq (sif (tst (bop eqD (bop ixD (var 0) (con (.int 0))) (con (.str "sign")))) (sret (una negD (bop ixD (var 2) (con (.int 0))))) sskip) (t4__law_value rec)
def t2__law_value (rec : List D → Res D) : Rho → SR :=
  sseq (sasg (lcD (its (slc (var 0) (psm (con (.int 1))) pno)) 3 yes (e1__law_value rec)) (gn 2)) (t3__law_value rec)
def t1__law_value (rec : List D → Res D) : Rho → SR :=
  sseq (sif (tst (bop eqD (bop ixD (var 0) (con (.int 0))) (con (.str "number")))) (sret (bop ixD (var 0) (con (.int 1)))) sskip) (t2__law_value rec)
def g__law_value (rec : List D → Res D) : Rho → SR :=
  sseq (sif (tst (bop eqD (bop ixD (var 0) (con (.int 0))) (con (.str "name")))) (sret (bop ixD (var 1) (bop ixD (var 0) (con (.int 1))))) sskip) (t1__law_value rec)
def d__law_value : Nat → List D → Res D
  | 0 => fun _ => .bad
  | n + 1 => runB 4 (g__law_value (d__law_value n))
theorem v__law_value {a0 a1 : D} {n : Nat} : d__law_value (n + 1) [a0, a1] = finR (g__law_value (d__law_value n) [.z a0, .z a1, .u, .u]) := runB_eq rfl
def N_bounds : List Str := ["formula", "ranges", "one", "deed"]
def t5_bounds (rec : List D → Res D) : Rho → SR :=
  (sret (callF 3 (fun n => (if n = "plus_of" then some (fun ds => if ds.length = 2 then d_plus_of ds else .bad) else (if n = "minus_of" then some (fun ds => if ds.length = 2 then d_minus_of ds else .bad) else (if n = "times_of" then some (fun ds => if ds.length = 2 then d_times_of ds else .bad) else none)))) (acons (var 2) (acons (callD 2 rec (acons (bop ixD (var 0) (con (.int 2))) (acons (var 1) anil))) anil))))
def t4_bounds (rec : List D → Res D) : Rho → SR :=
  sseq (sasg (tabF [("plus", "plus_of"), ("minus", "minus_of"), ("times", "times_of")] (bop ixD (var 0) (con (.int 0)))) (gn 3)) (t5_bounds rec)
def t3_bounds (rec : List D → Res D) : Rho → SR :=
  sseq (sif (tst (bop eqD (bop ixD (var 0) (con (.int 0))) (con (.str "sign")))) (sret (mkT (acons (callD 1 d_turned (acons (bop ixD (var 2) (con (.int 1))) anil)) (acons (callD 1 d_turned (acons (bop ixD (var 2) (con (.int 0))) anil)) anil)))) sskip) (t4_bounds rec)
def t2_bounds (rec : List D → Res D) : Rho → SR :=
  sseq (sasg (callD 2 rec (acons (bop ixD (var 0) (con (.int 1))) (acons (var 1) anil))) (gn 2)) (t3_bounds rec)
def t1_bounds (rec : List D → Res D) : Rho → SR :=
  sseq (sif (tst (bop eqD (bop ixD (var 0) (con (.int 0))) (con (.str "number")))) (sret (mkT (acons (mkT (acons (bop ixD (var 0) (con (.int 1))) (acons (con (.int 0)) anil))) (acons (mkT (acons (bop ixD (var 0) (con (.int 1))) (acons (con (.int 0)) anil))) anil)))) sskip) (t2_bounds rec)
def g_bounds (rec : List D → Res D) : Rho → SR :=
  sseq (sif (tst (bop eqD (bop ixD (var 0) (con (.int 0))) (con (.str "name")))) (sret (bop ixD (var 1) (bop ixD (var 0) (con (.int 1))))) sskip) (t1_bounds rec)
def d_bounds : Nat → List D → Res D
  | 0 => fun _ => .bad
  | n + 1 => runB 4 (g_bounds (d_bounds n))
theorem v_bounds {a0 a1 : D} {n : Nat} : d_bounds (n + 1) [a0, a1] = finR (g_bounds (d_bounds n) [.z a0, .z a1, .u, .u]) := runB_eq rfl
def N__law_within_v2 : List Str := ["pair", "low", "high"]
def g__law_within_v2 : Rho → SR :=
  (sret (andE (bop leD (callD 1 d__law_level (acons (bop ixD (var 0) (con (.int 0))) anil)) (var 1)) (bop leD (var 2) (callD 1 d__law_level (acons (bop ixD (var 0) (con (.int 1))) anil)))))
def d__law_within_v2 (ds : List D) : Res D := runB 3 g__law_within_v2 ds
theorem v__law_within_v2 {a0 a1 a2 : D} : d__law_within_v2 [a0, a1, a2] = finR (g__law_within_v2 [.z a0, .z a1, .z a2]) := runB_eq rfl
def topS (i : Nat) : Stmt := PySem.Challenge.pw_pocketpile_k55_whole_bounds_hold.main.body.getD i (.Pass ⟨0, 0, 0, 0⟩)
abbrev s_ten : Stmt := topS 10
abbrev s_figures_of : Stmt := topS 11
abbrev s_height : Stmt := topS 12
abbrev s_taken : Stmt := topS 13
abbrev s_by_size : Stmt := topS 14
abbrev s_fitted : Stmt := topS 15
abbrev s_power_for : Stmt := topS 16
abbrev s_exact : Stmt := topS 17
abbrev s_level : Stmt := topS 19
abbrev s_of_power : Stmt := topS 20
abbrev s_plus : Stmt := topS 21
abbrev s_turned : Stmt := topS 22
abbrev s_minus : Stmt := topS 23
abbrev s_less : Stmt := topS 24
abbrev s_plus_of : Stmt := topS 26
abbrev s_minus_of : Stmt := topS 27
abbrev s_is_less_product : Stmt := topS 28
abbrev s_product : Stmt := topS 30
abbrev s_times_of : Stmt := topS 29
abbrev s_bounds : Stmt := topS 33
abbrev s__law_cell_at : Stmt := topS 35
abbrev s__law_mixed : Stmt := topS 36
abbrev s__law_drawn : Stmt := topS 37
abbrev s__law_ten : Stmt := topS 38
abbrev s__law_tidy : Stmt := topS 40
abbrev s__law_formula : Stmt := topS 42
abbrev s__law_value : Stmt := topS 44
abbrev s__law_told : Stmt := topS 45
abbrev s__law_level : Stmt := topS 46
abbrev s__law_within : Stmt := topS 47
abbrev s_law : Stmt := topS 48
def tfs : List He.Defn := [("law", none)]
def tabT (K : PySem.W.Frag) : List (Addr × Str) := [((He.cT K ("law", none)).2, ("law" : Str) ++ ".<locals>." ++ "<lambda>")]
def huB (K : PySem.W.Frag) (x : Str) : Bool := (tabT K).all fun p => !decide (p.1 = (He.cT K (x, none)).2) || decide (p.2 = x ++ ".<locals>." ++ "<lambda>")
theorem huB_ok {K : PySem.W.Frag} {x : Str} (h : huB K x = true) : ∀ p ∈ tabT K, p.1 = (He.cT K (x, none)).2 → p.2 = x ++ ".<locals>." ++ "<lambda>" := fun p hp e => by
  have := List.all_eq_true.mp h p hp
  simpa [e] using this
theorem sc__law_told : FnScope ["deed", "found", "e", "kinds"] ["deed"] (defScope s__law_told) := ⟨rfl, rfl, rfl, by decide +kernel, rfl, by decide +kernel, by decide +kernel⟩
theorem toldS : ToldS (defScope s__law_told) := ⟨by decide +kernel, by decide +kernel, rfl, rfl, rfl⟩
structure Top (w : World) (K : PySem.W.Frag) (mg : Str → Option Value) : Prop where
  f_ten : ∃ fd, FunD K "ten" "ten" (defArgs s_ten) (defBody s_ten) (defScope s_ten) [] [] (He.ga K "ten") fd
  m_ten : mg "ten" = some (.ref (He.ga K "ten"))
  f_figures_of : ∃ fd, FunD K "figures_of" "figures_of" (defArgs s_figures_of) (defBody s_figures_of) (defScope s_figures_of) [] [] (He.ga K "figures_of") fd
  m_figures_of : mg "figures_of" = some (.ref (He.ga K "figures_of"))
  f_height : ∃ fd, FunD K "height" "height" (defArgs s_height) (defBody s_height) (defScope s_height) [] [] (He.ga K "height") fd
  m_height : mg "height" = some (.ref (He.ga K "height"))
  f_taken : ∃ fd, FunD K "taken" "taken" (defArgs s_taken) (defBody s_taken) (defScope s_taken) [] [] (He.ga K "taken") fd
  m_taken : mg "taken" = some (.ref (He.ga K "taken"))
  f_by_size : ∃ fd, FunD K "by_size" "by_size" (defArgs s_by_size) (defBody s_by_size) (defScope s_by_size) [] [] (He.ga K "by_size") fd
  m_by_size : mg "by_size" = some (.ref (He.ga K "by_size"))
  f_fitted : ∃ fd, FunD K "fitted" "fitted" (defArgs s_fitted) (defBody s_fitted) (defScope s_fitted) [] [] (He.ga K "fitted") fd
  m_fitted : mg "fitted" = some (.ref (He.ga K "fitted"))
  f_power_for : ∃ fd, FunD K "power_for" "power_for" (defArgs s_power_for) (defBody s_power_for) (defScope s_power_for) [] [] (He.ga K "power_for") fd
  m_power_for : mg "power_for" = some (.ref (He.ga K "power_for"))
  f_exact : ∃ fd, FunD K "exact" "exact" (defArgs s_exact) (defBody s_exact) (defScope s_exact) [] [] (He.ga K "exact") fd
  m_exact : mg "exact" = some (.ref (He.ga K "exact"))
  f_level : ∃ fd, FunD K "level" "level" (defArgs s_level) (defBody s_level) (defScope s_level) [] [] (He.ga K "level") fd
  m_level : mg "level" = some (.ref (He.ga K "level"))
  f_of_power : ∃ fd, FunD K "of_power" "of_power" (defArgs s_of_power) (defBody s_of_power) (defScope s_of_power) [] [] (He.ga K "of_power") fd
  m_of_power : mg "of_power" = some (.ref (He.ga K "of_power"))
  f_plus : ∃ fd, FunD K "plus" "plus" (defArgs s_plus) (defBody s_plus) (defScope s_plus) [] [] (He.ga K "plus") fd
  m_plus : mg "plus" = some (.ref (He.ga K "plus"))
  f_turned : ∃ fd, FunD K "turned" "turned" (defArgs s_turned) (defBody s_turned) (defScope s_turned) [] [] (He.ga K "turned") fd
  m_turned : mg "turned" = some (.ref (He.ga K "turned"))
  f_minus : ∃ fd, FunD K "minus" "minus" (defArgs s_minus) (defBody s_minus) (defScope s_minus) [] [] (He.ga K "minus") fd
  m_minus : mg "minus" = some (.ref (He.ga K "minus"))
  f_less : ∃ fd, FunD K "less" "less" (defArgs s_less) (defBody s_less) (defScope s_less) [] [] (He.ga K "less") fd
  m_less : mg "less" = some (.ref (He.ga K "less"))
  f_plus_of : ∃ fd, FunD K "plus_of" "plus_of" (defArgs s_plus_of) (defBody s_plus_of) (defScope s_plus_of) [] [] (He.ga K "plus_of") fd
  m_plus_of : mg "plus_of" = some (.ref (He.ga K "plus_of"))
  f_minus_of : ∃ fd, FunD K "minus_of" "minus_of" (defArgs s_minus_of) (defBody s_minus_of) (defScope s_minus_of) [] [] (He.ga K "minus_of") fd
  m_minus_of : mg "minus_of" = some (.ref (He.ga K "minus_of"))
  f_is_less_product : ∃ fd, FunD K "is_less_product" "is_less_product" (defArgs s_is_less_product) (defBody s_is_less_product) (defScope s_is_less_product) [] [] (He.ga K "is_less_product") fd
  m_is_less_product : mg "is_less_product" = some (.ref (He.ga K "is_less_product"))
  f_product : ∃ fd, FunD K "product" "product" (defArgs s_product) (defBody s_product) (defScope s_product) [] [] (He.ga K "product") fd
  m_product : mg "product" = some (.ref (He.ga K "product"))
  f_times_of : ∃ fd, FunD K "times_of" "times_of" (defArgs s_times_of) (defBody s_times_of) (defScope s_times_of) [] [] (He.ga K "times_of") fd
  m_times_of : mg "times_of" = some (.ref (He.ga K "times_of"))
  f_bounds : ∃ fd, FunD K "bounds" "bounds" (defArgs s_bounds) (defBody s_bounds) (defScope s_bounds) [] [] (He.ga K "bounds") fd
  m_bounds : mg "bounds" = some (.ref (He.ga K "bounds"))
  f__law_cell_at : ∃ fd, FunD K "_law_cell_at" "_law_cell_at" (defArgs s__law_cell_at) (defBody s__law_cell_at) (defScope s__law_cell_at) [] [] (He.ga K "_law_cell_at") fd
  m__law_cell_at : mg "_law_cell_at" = some (.ref (He.ga K "_law_cell_at"))
  f__law_mixed : ∃ fd, FunD K "_law_mixed" "_law_mixed" (defArgs s__law_mixed) (defBody s__law_mixed) (defScope s__law_mixed) [] [] (He.ga K "_law_mixed") fd
  m__law_mixed : mg "_law_mixed" = some (.ref (He.ga K "_law_mixed"))
  f__law_drawn : ∃ fd, FunD K "_law_drawn" "_law_drawn" (defArgs s__law_drawn) (defBody s__law_drawn) (defScope s__law_drawn) [] [] (He.ga K "_law_drawn") fd
  m__law_drawn : mg "_law_drawn" = some (.ref (He.ga K "_law_drawn"))
  f__law_ten : ∃ fd, FunD K "_law_ten" "_law_ten" (defArgs s__law_ten) (defBody s__law_ten) (defScope s__law_ten) [] [] (He.ga K "_law_ten") fd
  m__law_ten : mg "_law_ten" = some (.ref (He.ga K "_law_ten"))
  f__law_tidy : ∃ fd, FunD K "_law_tidy" "_law_tidy" (defArgs s__law_tidy) (defBody s__law_tidy) (defScope s__law_tidy) [] [] (He.ga K "_law_tidy") fd
  m__law_tidy : mg "_law_tidy" = some (.ref (He.ga K "_law_tidy"))
  f__law_formula : ∃ fd, FunD K "_law_formula" "_law_formula" (defArgs s__law_formula) (defBody s__law_formula) (defScope s__law_formula) [] [] (He.ga K "_law_formula") fd
  m__law_formula : mg "_law_formula" = some (.ref (He.ga K "_law_formula"))
  f__law_value : ∃ fd, FunD K "_law_value" "_law_value" (defArgs s__law_value) (defBody s__law_value) (defScope s__law_value) [] [] (He.ga K "_law_value") fd
  m__law_value : mg "_law_value" = some (.ref (He.ga K "_law_value"))
  f__law_told : ∃ fd, FunD K "_law_told" "_law_told" (defArgs s__law_told) (defBody s__law_told) (defScope s__law_told) [] [] (He.ga K "_law_told") fd
  m__law_told : mg "_law_told" = some (.ref (He.ga K "_law_told"))
  f__law_level : ∃ fd, FunD K "_law_level" "_law_level" (defArgs s__law_level) (defBody s__law_level) (defScope s__law_level) [] [] (He.ga K "_law_level") fd
  m__law_level : mg "_law_level" = some (.ref (He.ga K "_law_level"))
  f__law_within : ∃ fd, FunD K "_law_within" "_law_within" (defArgs s__law_within) (defBody s__law_within) (defScope s__law_within) [] [] (He.ga K "_law_within") fd
  m__law_within : mg "_law_within" = some (.ref (He.ga K "_law_within"))
  f_law : ∃ fd, FunD K "law" "law" (defArgs s_law) (defBody s_law) (defScope s_law) [] [] (He.ga K "law") fd
  m_law : mg "law" = some (.ref (He.ga K "law"))
  b_int : mg "int" = none
  b_abs : mg "abs" = none
  b_str : mg "str" = none
  b_len : mg "len" = none
  b_max : mg "max" = none
  b_min : mg "min" = none
  b_range : mg "range" = none
  b_tuple : mg "tuple" = none
  b_repr : mg "repr" = none
  c_HIGHEST : ∃ t, mg "HIGHEST" = some (.int (40) t)
  c_MOST : ∃ t, mg "MOST" = some (.int (8) t)
  d_OF_TWO : DicF w K mg "OF_TWO" [("plus", "plus_of"), ("minus", "minus_of"), ("times", "times_of")]
  e_TooGreat : ExcN K mg "TooGreat"
  told : ToldC K mg
  hu_law : ∀ p ∈ tabT K, p.1 = (He.cT K ("law", none)).2 → p.2 = ("law" : Str) ++ ".<locals>." ++ "<lambda>"
section
variable {P : Program} {w : World} {K : PySem.W.Frag} {mg : Str → Option Value} {base : Heap} {T : List (Addr × Str)}
theorem sc_ten : FnScope N_ten ["power"] (defScope s_ten) := ⟨rfl, rfl, rfl, by decide +kernel, rfl, by decide +kernel, by decide +kernel⟩
theorem ok_ten (Z : Top w K mg) : OkD P w K mg base T 1 "ten" 1 d_ten := by
  obtain ⟨fd, Fd⟩ := Z.f_ten
  refine ⟨⟨fd, ["power"], fn_ok Fd sc_ten rfl fun cdv A outer s0 H0 E F0 hr => ?_, Fd.bindsN (ps := ["power"]) (fun _ _ _ _ _ _ us hl => match us, hl with | [_], _ => rfl)⟩, Fd.kp, Z.m_ten⟩
  have tk : Takes (cxOf (L2.CX P w) P w K mg base N_ten "ten" (defScope s_ten) (He.ga K "ten") cdv A outer s0 H0 E) (WofE E) := takes_of rfl rfl rfl rfl
  have po : PassesOwn (model P w) (cxOf (L2.CX P w) P w K mg base N_ten "ten" (defScope s_ten) (He.ga K "ten") cdv A outer s0 H0 E).A (cxOf (L2.CX P w) P w K mg base N_ten "ten" (defScope s_ten) (He.ga K "ten") cdv A outer s0 H0 E).env (cxOf (L2.CX P w) P w K mg base N_ten "ten" (defScope s_ten) (He.ga K "ten") cdv A outer s0 H0 E).xe := passes_of (X := (cxOf (L2.CX P w) P w K mg base N_ten "ten" (defScope s_ten) (He.ga K "ten") cdv A outer s0 H0 E)) rfl
  have hu := hr.units
  exact (s_one (s_ret (e_callTy c_int rfl Z.b_int bt_int (a_cons (e_bin o_add e_str (e_bin o_mul e_str (e_var (pv 0)))) a_nil))))
theorem sc_figures_of : FnScope N_figures_of ["whole"] (defScope s_figures_of) := ⟨rfl, rfl, rfl, by decide +kernel, rfl, by decide +kernel, by decide +kernel⟩
theorem ok_figures_of (Z : Top w K mg) : OkD P w K mg base T 1 "figures_of" 1 d_figures_of := by
  obtain ⟨fd, Fd⟩ := Z.f_figures_of
  refine ⟨⟨fd, ["whole"], fn_ok Fd sc_figures_of rfl fun cdv A outer s0 H0 E F0 hr => ?_, Fd.bindsN (ps := ["whole"]) (fun _ _ _ _ _ _ us hl => match us, hl with | [_], _ => rfl)⟩, Fd.kp, Z.m_figures_of⟩
  have tk : Takes (cxOf (L2.CX P w) P w K mg base N_figures_of "figures_of" (defScope s_figures_of) (He.ga K "figures_of") cdv A outer s0 H0 E) (WofE E) := takes_of rfl rfl rfl rfl
  have po : PassesOwn (model P w) (cxOf (L2.CX P w) P w K mg base N_figures_of "figures_of" (defScope s_figures_of) (He.ga K "figures_of") cdv A outer s0 H0 E).A (cxOf (L2.CX P w) P w K mg base N_figures_of "figures_of" (defScope s_figures_of) (He.ga K "figures_of") cdv A outer s0 H0 E).env (cxOf (L2.CX P w) P w K mg base N_figures_of "figures_of" (defScope s_figures_of) (He.ga K "figures_of") cdv A outer s0 H0 E).xe := passes_of (X := (cxOf (L2.CX P w) P w K mg base N_figures_of "figures_of" (defScope s_figures_of) (He.ga K "figures_of") cdv A outer s0 H0 E)) rfl
  have hu := hr.units
  exact (s_one (s_ret (e_callB c_len rfl Z.b_len bt_len (a_cons (e_callTy c_str rfl Z.b_str bt_str (a_cons (e_callB c_abs rfl Z.b_abs bt_abs (a_cons (e_var (pv 0)) a_nil)) a_nil)) a_nil))))
theorem sc_height : FnScope N_height ["number"] (defScope s_height) := ⟨rfl, rfl, rfl, by decide +kernel, rfl, by decide +kernel, by decide +kernel⟩
theorem ok_height (Z : Top w K mg) : OkD P w K mg base T 2 "height" 1 d_height := by
  obtain ⟨fd, Fd⟩ := Z.f_height
  refine ⟨⟨fd, ["number"], fn_ok Fd sc_height rfl fun cdv A outer s0 H0 E F0 hr => ?_, Fd.bindsN (ps := ["number"]) (fun _ _ _ _ _ _ us hl => match us, hl with | [_], _ => rfl)⟩, Fd.kp, Z.m_height⟩
  have tk : Takes (cxOf (L2.CX P w) P w K mg base N_height "height" (defScope s_height) (He.ga K "height") cdv A outer s0 H0 E) (WofE E) := takes_of rfl rfl rfl rfl
  have po : PassesOwn (model P w) (cxOf (L2.CX P w) P w K mg base N_height "height" (defScope s_height) (He.ga K "height") cdv A outer s0 H0 E).A (cxOf (L2.CX P w) P w K mg base N_height "height" (defScope s_height) (He.ga K "height") cdv A outer s0 H0 E).env (cxOf (L2.CX P w) P w K mg base N_height "height" (defScope s_height) (He.ga K "height") cdv A outer s0 H0 E).xe := passes_of (X := (cxOf (L2.CX P w) P w K mg base N_height "height" (defScope s_height) (He.ga K "height") cdv A outer s0 H0 E)) rfl
  have hu := hr.units
  exact (s_one (s_ret (e_bin o_sub (e_bin o_add (e_ix (e_var (pv 0)) e_int) (e_call (ok_figures_of Z) hr tk rfl (a_cons (e_ix (e_var (pv 0)) e_int) a_nil))) e_int)))
theorem sc_taken : FnScope N_taken ["whole", "rest", "lower", "manner"] (defScope s_taken) := ⟨rfl, rfl, rfl, by decide +kernel, rfl, by decide +kernel, by decide +kernel⟩
theorem ok_taken (Z : Top w K mg) : OkD P w K mg base T 1 "taken" 4 d_taken := by
  obtain ⟨fd, Fd⟩ := Z.f_taken
  refine ⟨⟨fd, ["whole", "rest", "lower", "manner"], fn_ok Fd sc_taken rfl fun cdv A outer s0 H0 E F0 hr => ?_, Fd.bindsN (ps := ["whole", "rest", "lower", "manner"]) (fun _ _ _ _ _ _ us hl => match us, hl with | [_, _, _, _], _ => rfl)⟩, Fd.kp, Z.m_taken⟩
  have tk : Takes (cxOf (L2.CX P w) P w K mg base N_taken "taken" (defScope s_taken) (He.ga K "taken") cdv A outer s0 H0 E) (WofE E) := takes_of rfl rfl rfl rfl
  have po : PassesOwn (model P w) (cxOf (L2.CX P w) P w K mg base N_taken "taken" (defScope s_taken) (He.ga K "taken") cdv A outer s0 H0 E).A (cxOf (L2.CX P w) P w K mg base N_taken "taken" (defScope s_taken) (He.ga K "taken") cdv A outer s0 H0 E).env (cxOf (L2.CX P w) P w K mg base N_taken "taken" (defScope s_taken) (He.ga K "taken") cdv A outer s0 H0 E).xe := passes_of (X := (cxOf (L2.CX P w) P w K mg base N_taken "taken" (defScope s_taken) (He.ga K "taken") cdv A outer s0 H0 E)) rfl
  have hu := hr.units
  exact (s_cons (s_if (q_w (w_or (q_cmp (o_eq hu) (e_var (pv 1)) e_int (nomark _)) (w_or1 (q_cmp (o_eq hu) (e_var (pv 3)) e_str (nomark _))))) (s_one (s_ret (e_var (pv 0)))) s_nil)
    (s_cons (s_if (q_cmp (o_eq hu) (e_var (pv 3)) e_str (nomark _)) (s_one (s_ret (e_bin o_add (e_var (pv 0)) e_int))) s_nil)
    (s_cons (s_if (q_cmp (o_eq hu) (e_bin o_mul e_int (e_var (pv 1))) (e_var (pv 2)) (nomark _)) (s_one (s_ret (e_bin o_add (e_var (pv 0)) (e_callTy c_int rfl Z.b_int bt_int (a_cons (e_or (e_cmp (o_eq hu) (e_var (pv 3)) e_str (nomark _)) (e_one (e_cmp (o_eq hu) (e_bin o_mod (e_var (pv 0)) e_int) e_int (nomark _)))) a_nil))))) s_nil)
    (s_one (s_ret (e_bin o_add (e_var (pv 0)) (e_callTy c_int rfl Z.b_int bt_int (a_cons (e_cmp o_gt (e_bin o_mul e_int (e_var (pv 1))) (e_var (pv 2)) (nomark _)) a_nil))))))))
theorem sc_by_size : FnScope N_by_size ["manner", "below"] (defScope s_by_size) := ⟨rfl, rfl, rfl, by decide +kernel, rfl, by decide +kernel, by decide +kernel⟩
theorem ok_by_size (Z : Top w K mg) : OkD P w K mg base T 1 "by_size" 2 d_by_size := by
  obtain ⟨fd, Fd⟩ := Z.f_by_size
  refine ⟨⟨fd, ["manner", "below"], fn_ok Fd sc_by_size rfl fun cdv A outer s0 H0 E F0 hr => ?_, Fd.bindsN (ps := ["manner", "below"]) (fun _ _ _ _ _ _ us hl => match us, hl with | [_, _], _ => rfl)⟩, Fd.kp, Z.m_by_size⟩
  have tk : Takes (cxOf (L2.CX P w) P w K mg base N_by_size "by_size" (defScope s_by_size) (He.ga K "by_size") cdv A outer s0 H0 E) (WofE E) := takes_of rfl rfl rfl rfl
  have po : PassesOwn (model P w) (cxOf (L2.CX P w) P w K mg base N_by_size "by_size" (defScope s_by_size) (He.ga K "by_size") cdv A outer s0 H0 E).A (cxOf (L2.CX P w) P w K mg base N_by_size "by_size" (defScope s_by_size) (He.ga K "by_size") cdv A outer s0 H0 E).env (cxOf (L2.CX P w) P w K mg base N_by_size "by_size" (defScope s_by_size) (He.ga K "by_size") cdv A outer s0 H0 E).xe := passes_of (X := (cxOf (L2.CX P w) P w K mg base N_by_size "by_size" (defScope s_by_size) (He.ga K "by_size") cdv A outer s0 H0 E)) rfl
  have hu := hr.units
  exact (s_cons (s_if (q_cmp (o_eq hu) (e_var (pv 0)) e_str (nomark _)) (s_one (s_ret (e_ix (e_lst (a_cons e_str (a_cons e_str a_nil))) (e_callTy c_int rfl Z.b_int bt_int (a_cons (e_var (pv 1)) a_nil))))) s_nil)
    (s_cons (s_if (q_cmp (o_eq hu) (e_var (pv 0)) e_str (nomark _)) (s_one (s_ret (e_ix (e_lst (a_cons e_str (a_cons e_str a_nil))) (e_callTy c_int rfl Z.b_int bt_int (a_cons (e_var (pv 1)) a_nil))))) s_nil)
    (s_one (s_ret (e_var (pv 0))))))
theorem sc_fitted : FnScope N_fitted ["whole", "power", "below", "manner"] (defScope s_fitted) := ⟨rfl, rfl, rfl, by decide +kernel, rfl, by decide +kernel, by decide +kernel⟩
theorem ok_fitted (Z : Top w K mg) : OkD P w K mg base T 3 "fitted" 4 d_fitted := by
  obtain ⟨fd, Fd⟩ := Z.f_fitted
  refine ⟨⟨fd, ["whole", "power", "below", "manner"], fn_ok Fd sc_fitted rfl fun cdv A outer s0 H0 E F0 hr => ?_, Fd.bindsN (ps := ["whole", "power", "below", "manner"]) (fun _ _ _ _ _ _ us hl => match us, hl with | [_, _, _, _], _ => rfl)⟩, Fd.kp, Z.m_fitted⟩
  have tk : Takes (cxOf (L2.CX P w) P w K mg base N_fitted "fitted" (defScope s_fitted) (He.ga K "fitted") cdv A outer s0 H0 E) (WofE E) := takes_of rfl rfl rfl rfl
  have po : PassesOwn (model P w) (cxOf (L2.CX P w) P w K mg base N_fitted "fitted" (defScope s_fitted) (He.ga K "fitted") cdv A outer s0 H0 E).A (cxOf (L2.CX P w) P w K mg base N_fitted "fitted" (defScope s_fitted) (He.ga K "fitted") cdv A outer s0 H0 E).env (cxOf (L2.CX P w) P w K mg base N_fitted "fitted" (defScope s_fitted) (He.ga K "fitted") cdv A outer s0 H0 E).xe := passes_of (X := (cxOf (L2.CX P w) P w K mg base N_fitted "fitted" (defScope s_fitted) (He.ga K "fitted") cdv A outer s0 H0 E)) rfl
  have hu := hr.units
  exact (s_cons (s_if (q_cmp (o_eq hu) (e_var (pv 0)) e_int (nomark _)) (s_one (s_ret (e_tup (a_cons e_int (a_cons e_int a_nil))))) s_nil)
    (s_cons (s_while 100000 po (q_cmp (o_eq hu) (e_bin o_mod (e_var (pv 0)) e_int) e_int (nomark _)) (s_cons (s_asg (e_bin o_div (e_var (pv 0)) e_int) (g_name (pg_name (i := 0) sc_fitted.nd rfl (Or.inl rfl))))
    (s_one (s_asg (e_bin o_add (e_var (pv 1)) e_int) (g_name (pg_name (i := 1) sc_fitted.nd rfl (Or.inl rfl)))))))
    (s_cons (s_asg (e_bin o_sub e_int (e_bin o_mul e_int (e_callTy c_int rfl Z.b_int bt_int (a_cons (e_var (pv 2)) a_nil)))) (g_name (pg_name (i := 4) sc_fitted.nd rfl (Or.inl rfl))))
    (s_cons (s_if (q_cmp o_gt (e_call (ok_height Z) hr tk rfl (a_cons (e_tup (a_cons (e_var (pv 0)) (a_cons (e_var (pv 1)) a_nil))) a_nil)) (e_gint Z.c_HIGHEST rfl) (nomark _)) (s_one (s_raise Z.e_TooGreat rfl tk rfl)) s_nil)
    (s_cons (s_if (q_cmp o_lt (e_call (ok_height Z) hr tk rfl (a_cons (e_tup (a_cons (e_var (pv 0)) (a_cons (e_var (pv 1)) a_nil))) a_nil)) (e_una u_neg (e_gint Z.c_HIGHEST rfl)) (nomark _)) (s_cons (s_if (q_cmp (o_eq hu) (e_var (pv 3)) e_str (nomark _)) (s_one (s_ret (e_tup (a_cons (e_var (pv 4)) (a_cons (e_una u_neg (e_gint Z.c_HIGHEST rfl)) a_nil))))) s_nil)
    (s_one (s_ret (e_tup (a_cons e_int (a_cons e_int a_nil)))))) s_nil)
    (s_one (s_ret (e_tup (a_cons (e_bin o_mul (e_var (pv 4)) (e_var (pv 0))) (a_cons (e_var (pv 1)) a_nil))))))))))
theorem sc_power_for : FnScope N_power_for ["upper", "lower"] (defScope s_power_for) := ⟨rfl, rfl, rfl, by decide +kernel, rfl, by decide +kernel, by decide +kernel⟩
theorem ok_power_for (Z : Top w K mg) : OkD P w K mg base T 2 "power_for" 2 d_power_for := by
  obtain ⟨fd, Fd⟩ := Z.f_power_for
  refine ⟨⟨fd, ["upper", "lower"], fn_ok Fd sc_power_for rfl fun cdv A outer s0 H0 E F0 hr => ?_, Fd.bindsN (ps := ["upper", "lower"]) (fun _ _ _ _ _ _ us hl => match us, hl with | [_, _], _ => rfl)⟩, Fd.kp, Z.m_power_for⟩
  have tk : Takes (cxOf (L2.CX P w) P w K mg base N_power_for "power_for" (defScope s_power_for) (He.ga K "power_for") cdv A outer s0 H0 E) (WofE E) := takes_of rfl rfl rfl rfl
  have po : PassesOwn (model P w) (cxOf (L2.CX P w) P w K mg base N_power_for "power_for" (defScope s_power_for) (He.ga K "power_for") cdv A outer s0 H0 E).A (cxOf (L2.CX P w) P w K mg base N_power_for "power_for" (defScope s_power_for) (He.ga K "power_for") cdv A outer s0 H0 E).env (cxOf (L2.CX P w) P w K mg base N_power_for "power_for" (defScope s_power_for) (He.ga K "power_for") cdv A outer s0 H0 E).xe := passes_of (X := (cxOf (L2.CX P w) P w K mg base N_power_for "power_for" (defScope s_power_for) (He.ga K "power_for") cdv A outer s0 H0 E)) rfl
  have hu := hr.units
  exact (s_cons (s_asg (e_bin o_sub (e_bin o_sub (e_call (ok_figures_of Z) hr tk rfl (a_cons (e_var (pv 0)) a_nil)) (e_call (ok_figures_of Z) hr tk rfl (a_cons (e_var (pv 1)) a_nil))) (e_gint Z.c_MOST rfl)) (g_name (pg_name (i := 2) sc_power_for.nd rfl (Or.inl rfl))))
    (s_cons (s_while 100000 po (q_cmp o_ge (e_bin o_mul (e_var (pv 0)) (e_call (ok_ten Z) hr tk rfl (a_cons (e_callB (c_max rfl) rfl Z.b_max bt_max (a_cons (e_una u_neg (e_var (pv 2))) (a_cons e_int a_nil))) a_nil))) (e_bin o_mul (e_bin o_mul (e_var (pv 1)) (e_call (ok_ten Z) hr tk rfl (a_cons (e_callB (c_max rfl) rfl Z.b_max bt_max (a_cons (e_var (pv 2)) (a_cons e_int a_nil))) a_nil))) (e_call (ok_ten Z) hr tk rfl (a_cons (e_gint Z.c_MOST rfl) a_nil))) (nomark _)) (s_one (s_asg (e_bin o_add (e_var (pv 2)) e_int) (g_name (pg_name (i := 2) sc_power_for.nd rfl (Or.inl rfl))))))
    (s_one (s_ret (e_var (pv 2))))))
theorem sc_exact : FnScope N_exact ["upper", "lower", "manner"] (defScope s_exact) := ⟨rfl, rfl, rfl, by decide +kernel, rfl, by decide +kernel, by decide +kernel⟩
theorem ok_exact (Z : Top w K mg) : OkD P w K mg base T 4 "exact" 3 d_exact := by
  obtain ⟨fd, Fd⟩ := Z.f_exact
  refine ⟨⟨fd, ["upper", "lower", "manner"], fn_ok Fd sc_exact rfl fun cdv A outer s0 H0 E F0 hr => ?_, Fd.bindsN (ps := ["upper", "lower", "manner"]) (fun _ _ _ _ _ _ us hl => match us, hl with | [_, _, _], _ => rfl)⟩, Fd.kp, Z.m_exact⟩
  have tk : Takes (cxOf (L2.CX P w) P w K mg base N_exact "exact" (defScope s_exact) (He.ga K "exact") cdv A outer s0 H0 E) (WofE E) := takes_of rfl rfl rfl rfl
  have po : PassesOwn (model P w) (cxOf (L2.CX P w) P w K mg base N_exact "exact" (defScope s_exact) (He.ga K "exact") cdv A outer s0 H0 E).A (cxOf (L2.CX P w) P w K mg base N_exact "exact" (defScope s_exact) (He.ga K "exact") cdv A outer s0 H0 E).env (cxOf (L2.CX P w) P w K mg base N_exact "exact" (defScope s_exact) (He.ga K "exact") cdv A outer s0 H0 E).xe := passes_of (X := (cxOf (L2.CX P w) P w K mg base N_exact "exact" (defScope s_exact) (He.ga K "exact") cdv A outer s0 H0 E)) rfl
  have hu := hr.units
  exact (s_cons (s_if (q_cmp (o_eq hu) (e_var (pv 0)) e_int (nomark _)) (s_one (s_ret (e_tup (a_cons e_int (a_cons e_int a_nil))))) s_nil)
    (s_cons (s_asg (e_cmp (o_ne hu) (e_cmp o_lt (e_var (pv 0)) e_int (nomark _)) (e_cmp o_lt (e_var (pv 1)) e_int (nomark _)) (nomark _)) (g_name (pg_name (i := 3) sc_exact.nd rfl (Or.inl rfl))))
    (s_cons (s_asg (e_callB c_abs rfl Z.b_abs bt_abs (a_cons (e_var (pv 0)) a_nil)) (g_name (pg_name (i := 0) sc_exact.nd rfl (Or.inl rfl))))
    (s_cons (s_asg (e_callB c_abs rfl Z.b_abs bt_abs (a_cons (e_var (pv 1)) a_nil)) (g_name (pg_name (i := 1) sc_exact.nd rfl (Or.inl rfl))))
    (s_cons (s_asg (e_call (ok_power_for Z) hr tk rfl (a_cons (e_var (pv 0)) (a_cons (e_var (pv 1)) a_nil))) (g_name (pg_name (i := 4) sc_exact.nd rfl (Or.inl rfl))))
    (s_cons (s_asg (e_bin o_mul (e_var (pv 0)) (e_call (ok_ten Z) hr tk rfl (a_cons (e_callB (c_max rfl) rfl Z.b_max bt_max (a_cons (e_una u_neg (e_var (pv 4))) (a_cons e_int a_nil))) a_nil))) (g_name (pg_name (i := 0) sc_exact.nd rfl (Or.inl rfl))))
    (s_cons (s_asg (e_bin o_mul (e_var (pv 1)) (e_call (ok_ten Z) hr tk rfl (a_cons (e_callB (c_max rfl) rfl Z.b_max bt_max (a_cons (e_var (pv 4)) (a_cons e_int a_nil))) a_nil))) (g_name (pg_name (i := 1) sc_exact.nd rfl (Or.inl rfl))))
    (s_cons (s_asg (e_call (ok_by_size Z) hr tk rfl (a_cons (e_var (pv 2)) (a_cons (e_var (pv 3)) a_nil))) (g_name (pg_name (i := 5) sc_exact.nd rfl (Or.inl rfl))))
    (s_one (s_ret (e_call (ok_fitted Z) hr tk rfl (a_cons (e_call (ok_taken Z) hr tk rfl (a_cons (e_bin o_div (e_var (pv 0)) (e_var (pv 1))) (a_cons (e_bin o_mod (e_var (pv 0)) (e_var (pv 1))) (a_cons (e_var (pv 1)) (a_cons (e_var (pv 5)) a_nil))))) (a_cons (e_var (pv 4)) (a_cons (e_var (pv 3)) (a_cons (e_var (pv 5)) a_nil)))))))))))))))
theorem sc_level : FnScope N_level ["one", "other"] (defScope s_level) := ⟨rfl, rfl, rfl, by decide +kernel, rfl, by decide +kernel, by decide +kernel⟩
theorem ok_level (Z : Top w K mg) : OkD P w K mg base T 2 "level" 2 d_level := by
  obtain ⟨fd, Fd⟩ := Z.f_level
  refine ⟨⟨fd, ["one", "other"], fn_ok Fd sc_level rfl fun cdv A outer s0 H0 E F0 hr => ?_, Fd.bindsN (ps := ["one", "other"]) (fun _ _ _ _ _ _ us hl => match us, hl with | [_, _], _ => rfl)⟩, Fd.kp, Z.m_level⟩
  have tk : Takes (cxOf (L2.CX P w) P w K mg base N_level "level" (defScope s_level) (He.ga K "level") cdv A outer s0 H0 E) (WofE E) := takes_of rfl rfl rfl rfl
  have po : PassesOwn (model P w) (cxOf (L2.CX P w) P w K mg base N_level "level" (defScope s_level) (He.ga K "level") cdv A outer s0 H0 E).A (cxOf (L2.CX P w) P w K mg base N_level "level" (defScope s_level) (He.ga K "level") cdv A outer s0 H0 E).env (cxOf (L2.CX P w) P w K mg base N_level "level" (defScope s_level) (He.ga K "level") cdv A outer s0 H0 E).xe := passes_of (X := (cxOf (L2.CX P w) P w K mg base N_level "level" (defScope s_level) (He.ga K "level") cdv A outer s0 H0 E)) rfl
  have hu := hr.units
  exact (s_cons (s_asg (e_callB (c_min rfl) rfl Z.b_min bt_min (a_cons (e_ix (e_var (pv 0)) e_int) (a_cons (e_ix (e_var (pv 1)) e_int) a_nil))) (g_name (pg_name (i := 2) sc_level.nd rfl (Or.inl rfl))))
    (s_one (s_ret (e_tup (a_cons (e_bin o_mul (e_ix (e_var (pv 0)) e_int) (e_call (ok_ten Z) hr tk rfl (a_cons (e_bin o_sub (e_ix (e_var (pv 0)) e_int) (e_var (pv 2))) a_nil))) (a_cons (e_bin o_mul (e_ix (e_var (pv 1)) e_int) (e_call (ok_ten Z) hr tk rfl (a_cons (e_bin o_sub (e_ix (e_var (pv 1)) e_int) (e_var (pv 2))) a_nil))) (a_cons (e_var (pv 2)) a_nil)))))))
theorem sc_of_power : FnScope N_of_power ["whole", "power", "manner"] (defScope s_of_power) := ⟨rfl, rfl, rfl, by decide +kernel, rfl, by decide +kernel, by decide +kernel⟩
theorem ok_of_power (Z : Top w K mg) : OkD P w K mg base T 5 "of_power" 3 d_of_power := by
  obtain ⟨fd, Fd⟩ := Z.f_of_power
  refine ⟨⟨fd, ["whole", "power", "manner"], fn_ok Fd sc_of_power rfl fun cdv A outer s0 H0 E F0 hr => ?_, Fd.bindsN (ps := ["whole", "power", "manner"]) (fun _ _ _ _ _ _ us hl => match us, hl with | [_, _, _], _ => rfl)⟩, Fd.kp, Z.m_of_power⟩
  have tk : Takes (cxOf (L2.CX P w) P w K mg base N_of_power "of_power" (defScope s_of_power) (He.ga K "of_power") cdv A outer s0 H0 E) (WofE E) := takes_of rfl rfl rfl rfl
  have po : PassesOwn (model P w) (cxOf (L2.CX P w) P w K mg base N_of_power "of_power" (defScope s_of_power) (He.ga K "of_power") cdv A outer s0 H0 E).A (cxOf (L2.CX P w) P w K mg base N_of_power "of_power" (defScope s_of_power) (He.ga K "of_power") cdv A outer s0 H0 E).env (cxOf (L2.CX P w) P w K mg base N_of_power "of_power" (defScope s_of_power) (He.ga K "of_power") cdv A outer s0 H0 E).xe := passes_of (X := (cxOf (L2.CX P w) P w K mg base N_of_power "of_power" (defScope s_of_power) (He.ga K "of_power") cdv A outer s0 H0 E)) rfl
  have hu := hr.units
  exact (s_one (s_ret (e_call (ok_exact Z) hr tk rfl (a_cons (e_bin o_mul (e_var (pv 0)) (e_call (ok_ten Z) hr tk rfl (a_cons (e_callB (c_max rfl) rfl Z.b_max bt_max (a_cons (e_var (pv 1)) (a_cons e_int a_nil))) a_nil))) (a_cons (e_call (ok_ten Z) hr tk rfl (a_cons (e_callB (c_max rfl) rfl Z.b_max bt_max (a_cons (e_una u_neg (e_var (pv 1))) (a_cons e_int a_nil))) a_nil)) (a_cons (e_var (pv 2)) a_nil))))))
theorem sc_plus : FnScope N_plus ["one", "other", "manner"] (defScope s_plus) := ⟨rfl, rfl, rfl, by decide +kernel, rfl, by decide +kernel, by decide +kernel⟩
theorem ok_plus (Z : Top w K mg) : OkD P w K mg base T 6 "plus" 3 d_plus := by
  obtain ⟨fd, Fd⟩ := Z.f_plus
  refine ⟨⟨fd, ["one", "other", "manner"], fn_ok Fd sc_plus rfl fun cdv A outer s0 H0 E F0 hr => ?_, Fd.bindsN (ps := ["one", "other", "manner"]) (fun _ _ _ _ _ _ us hl => match us, hl with | [_, _, _], _ => rfl)⟩, Fd.kp, Z.m_plus⟩
  have tk : Takes (cxOf (L2.CX P w) P w K mg base N_plus "plus" (defScope s_plus) (He.ga K "plus") cdv A outer s0 H0 E) (WofE E) := takes_of rfl rfl rfl rfl
  have po : PassesOwn (model P w) (cxOf (L2.CX P w) P w K mg base N_plus "plus" (defScope s_plus) (He.ga K "plus") cdv A outer s0 H0 E).A (cxOf (L2.CX P w) P w K mg base N_plus "plus" (defScope s_plus) (He.ga K "plus") cdv A outer s0 H0 E).env (cxOf (L2.CX P w) P w K mg base N_plus "plus" (defScope s_plus) (He.ga K "plus") cdv A outer s0 H0 E).xe := passes_of (X := (cxOf (L2.CX P w) P w K mg base N_plus "plus" (defScope s_plus) (He.ga K "plus") cdv A outer s0 H0 E)) rfl
  have hu := hr.units
  exact (s_cons (s_asg (e_call (ok_level Z) hr tk rfl (a_cons (e_var (pv 0)) (a_cons (e_var (pv 1)) a_nil))) (g_tup rfl (gs_cons (g_name (pg_name (i := 3) sc_plus.nd rfl (Or.inl rfl))) (gs_cons (g_name (pg_name (i := 4) sc_plus.nd rfl (Or.inl rfl))) (gs_cons (g_name (pg_name (i := 5) sc_plus.nd rfl (Or.inl rfl))) gs_nil)))))
    (s_one (s_ret (e_call (ok_of_power Z) hr tk rfl (a_cons (e_bin o_add (e_var (pv 3)) (e_var (pv 4))) (a_cons (e_var (pv 5)) (a_cons (e_var (pv 2)) a_nil)))))))
theorem sc_turned : FnScope N_turned ["one"] (defScope s_turned) := ⟨rfl, rfl, rfl, by decide +kernel, rfl, by decide +kernel, by decide +kernel⟩
theorem ok_turned (Z : Top w K mg) : OkD P w K mg base T 1 "turned" 1 d_turned := by
  obtain ⟨fd, Fd⟩ := Z.f_turned
  refine ⟨⟨fd, ["one"], fn_ok Fd sc_turned rfl fun cdv A outer s0 H0 E F0 hr => ?_, Fd.bindsN (ps := ["one"]) (fun _ _ _ _ _ _ us hl => match us, hl with | [_], _ => rfl)⟩, Fd.kp, Z.m_turned⟩
  have tk : Takes (cxOf (L2.CX P w) P w K mg base N_turned "turned" (defScope s_turned) (He.ga K "turned") cdv A outer s0 H0 E) (WofE E) := takes_of rfl rfl rfl rfl
  have po : PassesOwn (model P w) (cxOf (L2.CX P w) P w K mg base N_turned "turned" (defScope s_turned) (He.ga K "turned") cdv A outer s0 H0 E).A (cxOf (L2.CX P w) P w K mg base N_turned "turned" (defScope s_turned) (He.ga K "turned") cdv A outer s0 H0 E).env (cxOf (L2.CX P w) P w K mg base N_turned "turned" (defScope s_turned) (He.ga K "turned") cdv A outer s0 H0 E).xe := passes_of (X := (cxOf (L2.CX P w) P w K mg base N_turned "turned" (defScope s_turned) (He.ga K "turned") cdv A outer s0 H0 E)) rfl
  have hu := hr.units
  exact (s_one (s_ret (e_tup (a_cons (e_una u_neg (e_ix (e_var (pv 0)) e_int)) (a_cons (e_ix (e_var (pv 0)) e_int) a_nil)))))
theorem sc_minus : FnScope N_minus ["one", "other", "manner"] (defScope s_minus) := ⟨rfl, rfl, rfl, by decide +kernel, rfl, by decide +kernel, by decide +kernel⟩
theorem ok_minus (Z : Top w K mg) : OkD P w K mg base T 7 "minus" 3 d_minus := by
  obtain ⟨fd, Fd⟩ := Z.f_minus
  refine ⟨⟨fd, ["one", "other", "manner"], fn_ok Fd sc_minus rfl fun cdv A outer s0 H0 E F0 hr => ?_, Fd.bindsN (ps := ["one", "other", "manner"]) (fun _ _ _ _ _ _ us hl => match us, hl with | [_, _, _], _ => rfl)⟩, Fd.kp, Z.m_minus⟩
  have tk : Takes (cxOf (L2.CX P w) P w K mg base N_minus "minus" (defScope s_minus) (He.ga K "minus") cdv A outer s0 H0 E) (WofE E) := takes_of rfl rfl rfl rfl
  have po : PassesOwn (model P w) (cxOf (L2.CX P w) P w K mg base N_minus "minus" (defScope s_minus) (He.ga K "minus") cdv A outer s0 H0 E).A (cxOf (L2.CX P w) P w K mg base N_minus "minus" (defScope s_minus) (He.ga K "minus") cdv A outer s0 H0 E).env (cxOf (L2.CX P w) P w K mg base N_minus "minus" (defScope s_minus) (He.ga K "minus") cdv A outer s0 H0 E).xe := passes_of (X := (cxOf (L2.CX P w) P w K mg base N_minus "minus" (defScope s_minus) (He.ga K "minus") cdv A outer s0 H0 E)) rfl
  have hu := hr.units
  exact (s_one (s_ret (e_call (ok_plus Z) hr tk rfl (a_cons (e_var (pv 0)) (a_cons (e_call (ok_turned Z) hr tk rfl (a_cons (e_var (pv 1)) a_nil)) (a_cons (e_var (pv 2)) a_nil))))))
theorem sc_less : FnScope N_less ["one", "other"] (defScope s_less) := ⟨rfl, rfl, rfl, by decide +kernel, rfl, by decide +kernel, by decide +kernel⟩
theorem ok_less (Z : Top w K mg) : OkD P w K mg base T 3 "less" 2 d_less := by
  obtain ⟨fd, Fd⟩ := Z.f_less
  refine ⟨⟨fd, ["one", "other"], fn_ok Fd sc_less rfl fun cdv A outer s0 H0 E F0 hr => ?_, Fd.bindsN (ps := ["one", "other"]) (fun _ _ _ _ _ _ us hl => match us, hl with | [_, _], _ => rfl)⟩, Fd.kp, Z.m_less⟩
  have tk : Takes (cxOf (L2.CX P w) P w K mg base N_less "less" (defScope s_less) (He.ga K "less") cdv A outer s0 H0 E) (WofE E) := takes_of rfl rfl rfl rfl
  have po : PassesOwn (model P w) (cxOf (L2.CX P w) P w K mg base N_less "less" (defScope s_less) (He.ga K "less") cdv A outer s0 H0 E).A (cxOf (L2.CX P w) P w K mg base N_less "less" (defScope s_less) (He.ga K "less") cdv A outer s0 H0 E).env (cxOf (L2.CX P w) P w K mg base N_less "less" (defScope s_less) (He.ga K "less") cdv A outer s0 H0 E).xe := passes_of (X := (cxOf (L2.CX P w) P w K mg base N_less "less" (defScope s_less) (He.ga K "less") cdv A outer s0 H0 E)) rfl
  have hu := hr.units
  exact (s_cons (s_asg (e_call (ok_level Z) hr tk rfl (a_cons (e_var (pv 0)) (a_cons (e_var (pv 1)) a_nil))) (g_tup rfl (gs_cons (g_name (pg_name (i := 2) sc_less.nd rfl (Or.inl rfl))) (gs_cons (g_name (pg_name (i := 3) sc_less.nd rfl (Or.inl rfl))) (gs_cons (g_name (pg_name (i := 4) sc_less.nd rfl (Or.inl rfl))) gs_nil)))))
    (s_one (s_ret (e_cmp o_lt (e_var (pv 2)) (e_var (pv 3)) (nomark _)))))
theorem sc_plus_of : FnScope N_plus_of ["one", "other"] (defScope s_plus_of) := ⟨rfl, rfl, rfl, by decide +kernel, rfl, by decide +kernel, by decide +kernel⟩
theorem ok_plus_of (Z : Top w K mg) : OkD P w K mg base T 7 "plus_of" 2 d_plus_of := by
  obtain ⟨fd, Fd⟩ := Z.f_plus_of
  refine ⟨⟨fd, ["one", "other"], fn_ok Fd sc_plus_of rfl fun cdv A outer s0 H0 E F0 hr => ?_, Fd.bindsN (ps := ["one", "other"]) (fun _ _ _ _ _ _ us hl => match us, hl with | [_, _], _ => rfl)⟩, Fd.kp, Z.m_plus_of⟩
  have tk : Takes (cxOf (L2.CX P w) P w K mg base N_plus_of "plus_of" (defScope s_plus_of) (He.ga K "plus_of") cdv A outer s0 H0 E) (WofE E) := takes_of rfl rfl rfl rfl
  have po : PassesOwn (model P w) (cxOf (L2.CX P w) P w K mg base N_plus_of "plus_of" (defScope s_plus_of) (He.ga K "plus_of") cdv A outer s0 H0 E).A (cxOf (L2.CX P w) P w K mg base N_plus_of "plus_of" (defScope s_plus_of) (He.ga K "plus_of") cdv A outer s0 H0 E).env (cxOf (L2.CX P w) P w K mg base N_plus_of "plus_of" (defScope s_plus_of) (He.ga K "plus_of") cdv A outer s0 H0 E).xe := passes_of (X := (cxOf (L2.CX P w) P w K mg base N_plus_of "plus_of" (defScope s_plus_of) (He.ga K "plus_of") cdv A outer s0 H0 E)) rfl
  have hu := hr.units
  exact (s_one (s_ret (e_tup (a_cons (e_call (ok_plus Z) hr tk rfl (a_cons (e_ix (e_var (pv 0)) e_int) (a_cons (e_ix (e_var (pv 1)) e_int) (a_cons e_str a_nil)))) (a_cons (e_call (ok_plus Z) hr tk rfl (a_cons (e_ix (e_var (pv 0)) e_int) (a_cons (e_ix (e_var (pv 1)) e_int) (a_cons e_str a_nil)))) a_nil)))))
theorem sc_minus_of : FnScope N_minus_of ["one", "other"] (defScope s_minus_of) := ⟨rfl, rfl, rfl, by decide +kernel, rfl, by decide +kernel, by decide +kernel⟩
theorem ok_minus_of (Z : Top w K mg) : OkD P w K mg base T 8 "minus_of" 2 d_minus_of := by
  obtain ⟨fd, Fd⟩ := Z.f_minus_of
  refine ⟨⟨fd, ["one", "other"], fn_ok Fd sc_minus_of rfl fun cdv A outer s0 H0 E F0 hr => ?_, Fd.bindsN (ps := ["one", "other"]) (fun _ _ _ _ _ _ us hl => match us, hl with | [_, _], _ => rfl)⟩, Fd.kp, Z.m_minus_of⟩
  have tk : Takes (cxOf (L2.CX P w) P w K mg base N_minus_of "minus_of" (defScope s_minus_of) (He.ga K "minus_of") cdv A outer s0 H0 E) (WofE E) := takes_of rfl rfl rfl rfl
  have po : PassesOwn (model P w) (cxOf (L2.CX P w) P w K mg base N_minus_of "minus_of" (defScope s_minus_of) (He.ga K "minus_of") cdv A outer s0 H0 E).A (cxOf (L2.CX P w) P w K mg base N_minus_of "minus_of" (defScope s_minus_of) (He.ga K "minus_of") cdv A outer s0 H0 E).env (cxOf (L2.CX P w) P w K mg base N_minus_of "minus_of" (defScope s_minus_of) (He.ga K "minus_of") cdv A outer s0 H0 E).xe := passes_of (X := (cxOf (L2.CX P w) P w K mg base N_minus_of "minus_of" (defScope s_minus_of) (He.ga K "minus_of") cdv A outer s0 H0 E)) rfl
  have hu := hr.units
  exact (s_one (s_ret (e_tup (a_cons (e_call (ok_minus Z) hr tk rfl (a_cons (e_ix (e_var (pv 0)) e_int) (a_cons (e_ix (e_var (pv 1)) e_int) (a_cons e_str a_nil)))) (a_cons (e_call (ok_minus Z) hr tk rfl (a_cons (e_ix (e_var (pv 0)) e_int) (a_cons (e_ix (e_var (pv 1)) e_int) (a_cons e_str a_nil)))) a_nil)))))
theorem sc_is_less_product : FnScope N_is_less_product ["one", "other"] (defScope s_is_less_product) := ⟨rfl, rfl, rfl, by decide +kernel, rfl, by decide +kernel, by decide +kernel⟩
theorem ok_is_less_product (Z : Top w K mg) : OkD P w K mg base T 4 "is_less_product" 2 d_is_less_product := by
  obtain ⟨fd, Fd⟩ := Z.f_is_less_product
  refine ⟨⟨fd, ["one", "other"], fn_ok Fd sc_is_less_product rfl fun cdv A outer s0 H0 E F0 hr => ?_, Fd.bindsN (ps := ["one", "other"]) (fun _ _ _ _ _ _ us hl => match us, hl with | [_, _], _ => rfl)⟩, Fd.kp, Z.m_is_less_product⟩
  have tk : Takes (cxOf (L2.CX P w) P w K mg base N_is_less_product "is_less_product" (defScope s_is_less_product) (He.ga K "is_less_product") cdv A outer s0 H0 E) (WofE E) := takes_of rfl rfl rfl rfl
  have po : PassesOwn (model P w) (cxOf (L2.CX P w) P w K mg base N_is_less_product "is_less_product" (defScope s_is_less_product) (He.ga K "is_less_product") cdv A outer s0 H0 E).A (cxOf (L2.CX P w) P w K mg base N_is_less_product "is_less_product" (defScope s_is_less_product) (He.ga K "is_less_product") cdv A outer s0 H0 E).env (cxOf (L2.CX P w) P w K mg base N_is_less_product "is_less_product" (defScope s_is_less_product) (He.ga K "is_less_product") cdv A outer s0 H0 E).xe := passes_of (X := (cxOf (L2.CX P w) P w K mg base N_is_less_product "is_less_product" (defScope s_is_less_product) (He.ga K "is_less_product") cdv A outer s0 H0 E)) rfl
  have hu := hr.units
  exact (s_one (s_ret (e_call (ok_less Z) hr tk rfl (a_cons (e_tup (a_cons (e_bin o_mul (e_ix (e_ix (e_var (pv 0)) e_int) e_int) (e_ix (e_ix (e_var (pv 0)) e_int) e_int)) (a_cons (e_bin o_add (e_ix (e_ix (e_var (pv 0)) e_int) e_int) (e_ix (e_ix (e_var (pv 0)) e_int) e_int)) a_nil))) (a_cons (e_tup (a_cons (e_bin o_mul (e_ix (e_ix (e_var (pv 1)) e_int) e_int) (e_ix (e_ix (e_var (pv 1)) e_int) e_int)) (a_cons (e_bin o_add (e_ix (e_ix (e_var (pv 1)) e_int) e_int) (e_ix (e_ix (e_var (pv 1)) e_int) e_int)) a_nil))) a_nil)))))
theorem sc_product : FnScope N_product ["pair", "manner"] (defScope s_product) := ⟨rfl, rfl, rfl, by decide +kernel, rfl, by decide +kernel, by decide +kernel⟩
theorem ok_product (Z : Top w K mg) : OkD P w K mg base T 6 "product" 2 d_product := by
  obtain ⟨fd, Fd⟩ := Z.f_product
  refine ⟨⟨fd, ["pair", "manner"], fn_ok Fd sc_product rfl fun cdv A outer s0 H0 E F0 hr => ?_, Fd.bindsN (ps := ["pair", "manner"]) (fun _ _ _ _ _ _ us hl => match us, hl with | [_, _], _ => rfl)⟩, Fd.kp, Z.m_product⟩
  have tk : Takes (cxOf (L2.CX P w) P w K mg base N_product "product" (defScope s_product) (He.ga K "product") cdv A outer s0 H0 E) (WofE E) := takes_of rfl rfl rfl rfl
  have po : PassesOwn (model P w) (cxOf (L2.CX P w) P w K mg base N_product "product" (defScope s_product) (He.ga K "product") cdv A outer s0 H0 E).A (cxOf (L2.CX P w) P w K mg base N_product "product" (defScope s_product) (He.ga K "product") cdv A outer s0 H0 E).env (cxOf (L2.CX P w) P w K mg base N_product "product" (defScope s_product) (He.ga K "product") cdv A outer s0 H0 E).xe := passes_of (X := (cxOf (L2.CX P w) P w K mg base N_product "product" (defScope s_product) (He.ga K "product") cdv A outer s0 H0 E)) rfl
  have hu := hr.units
  exact (s_one (s_ret (e_call (ok_of_power Z) hr tk rfl (a_cons (e_bin o_mul (e_ix (e_ix (e_var (pv 0)) e_int) e_int) (e_ix (e_ix (e_var (pv 0)) e_int) e_int)) (a_cons (e_bin o_add (e_ix (e_ix (e_var (pv 0)) e_int) e_int) (e_ix (e_ix (e_var (pv 0)) e_int) e_int)) (a_cons (e_var (pv 1)) a_nil))))))
theorem sc_times_of : FnScope N_times_of ["one", "other"] (defScope s_times_of) := ⟨rfl, rfl, rfl, by decide +kernel, rfl, by decide +kernel, by decide +kernel⟩
theorem ok_times_of (Z : Top w K mg) : OkD P w K mg base T 7 "times_of" 2 d_times_of := by
  obtain ⟨fd, Fd⟩ := Z.f_times_of
  refine ⟨⟨fd, ["one", "other"], fn_ok Fd sc_times_of rfl fun cdv A outer s0 H0 E F0 hr => ?_, Fd.bindsN (ps := ["one", "other"]) (fun _ _ _ _ _ _ us hl => match us, hl with | [_, _], _ => rfl)⟩, Fd.kp, Z.m_times_of⟩
  have tk : Takes (cxOf (L2.CX P w) P w K mg base N_times_of "times_of" (defScope s_times_of) (He.ga K "times_of") cdv A outer s0 H0 E) (WofE E) := takes_of rfl rfl rfl rfl
  have po : PassesOwn (model P w) (cxOf (L2.CX P w) P w K mg base N_times_of "times_of" (defScope s_times_of) (He.ga K "times_of") cdv A outer s0 H0 E).A (cxOf (L2.CX P w) P w K mg base N_times_of "times_of" (defScope s_times_of) (He.ga K "times_of") cdv A outer s0 H0 E).env (cxOf (L2.CX P w) P w K mg base N_times_of "times_of" (defScope s_times_of) (He.ga K "times_of") cdv A outer s0 H0 E).xe := passes_of (X := (cxOf (L2.CX P w) P w K mg base N_times_of "times_of" (defScope s_times_of) (He.ga K "times_of") cdv A outer s0 H0 E)) rfl
  have hu := hr.units
  exact (s_cons (s_asg (e_tup (a_cons (e_ix (e_var (pv 0)) e_int) (a_cons (e_ix (e_var (pv 1)) e_int) a_nil))) (g_name (pg_name (i := 2) sc_times_of.nd rfl (Or.inl rfl))))
    (s_cons (s_asg (e_var (pv 2)) (g_name (pg_name (i := 3) sc_times_of.nd rfl (Or.inl rfl))))
    (s_cons (s_for po rfl (i_any (e_tup (a_cons (e_tup (a_cons (e_ix (e_var (pv 0)) e_int) (a_cons (e_ix (e_var (pv 1)) e_int) a_nil))) (a_cons (e_tup (a_cons (e_ix (e_var (pv 0)) e_int) (a_cons (e_ix (e_var (pv 1)) e_int) a_nil))) (a_cons (e_tup (a_cons (e_ix (e_var (pv 0)) e_int) (a_cons (e_ix (e_var (pv 1)) e_int) a_nil))) a_nil))))) (g_name (pg_name (i := 4) sc_times_of.nd rfl (Or.inl rfl))) (s_cons (s_if (q_val (e_call (ok_is_less_product Z) hr tk rfl (a_cons (e_var (pv 4)) (a_cons (e_var (pv 2)) a_nil)))) (s_one (s_asg (e_var (pv 4)) (g_name (pg_name (i := 2) sc_times_of.nd rfl (Or.inl rfl))))) s_nil)
    (s_one (s_if (q_val (e_call (ok_is_less_product Z) hr tk rfl (a_cons (e_var (pv 3)) (a_cons (e_var (pv 4)) a_nil)))) (s_one (s_asg (e_var (pv 4)) (g_name (pg_name (i := 3) sc_times_of.nd rfl (Or.inl rfl))))) s_nil))))
    (s_one (s_ret (e_tup (a_cons (e_call (ok_product Z) hr tk rfl (a_cons (e_var (pv 2)) (a_cons e_str a_nil))) (a_cons (e_call (ok_product Z) hr tk rfl (a_cons (e_var (pv 3)) (a_cons e_str a_nil))) a_nil))))))))
theorem sc_bounds : FnScope N_bounds ["formula", "ranges"] (defScope s_bounds) := ⟨rfl, rfl, rfl, by decide +kernel, rfl, by decide +kernel, by decide +kernel⟩
theorem ok_bounds (n : Nat) (Z : Top w K mg) : OkD P w K mg base T (n * 1 + 9) "bounds" 2 (d_bounds n) := by
  induction n with
  | zero => exact ok_bad (k := 8) (Z.f_bounds) (Z.m_bounds) sc_bounds rfl (fun fd Fd => Fd.bindsN (ps := ["formula", "ranges"]) (fun _ _ _ _ _ _ us hl => match us, hl with | [_, _], _ => rfl))
  | succ n ih0 =>
  have ih : Top w K mg → OkD P w K mg base T (n * 1 + 9) "bounds" 2 (d_bounds n) := fun _ => ih0
  have e : (n + 1) * 1 + 9 = (n * 1 + 0 + 9) + 1 := by omega
  rw [e]
  obtain ⟨fd, Fd⟩ := Z.f_bounds
  refine ⟨⟨fd, ["formula", "ranges"], fn_ok Fd sc_bounds rfl fun cdv A outer s0 H0 E F0 hr => ?_, Fd.bindsN (ps := ["formula", "ranges"]) (fun _ _ _ _ _ _ us hl => match us, hl with | [_, _], _ => rfl)⟩, Fd.kp, Z.m_bounds⟩
  have tk : Takes (cxOf (L2.CX P w) P w K mg base N_bounds "bounds" (defScope s_bounds) (He.ga K "bounds") cdv A outer s0 H0 E) (WofE E) := takes_of rfl rfl rfl rfl
  have po : PassesOwn (model P w) (cxOf (L2.CX P w) P w K mg base N_bounds "bounds" (defScope s_bounds) (He.ga K "bounds") cdv A outer s0 H0 E).A (cxOf (L2.CX P w) P w K mg base N_bounds "bounds" (defScope s_bounds) (He.ga K "bounds") cdv A outer s0 H0 E).env (cxOf (L2.CX P w) P w K mg base N_bounds "bounds" (defScope s_bounds) (He.ga K "bounds") cdv A outer s0 H0 E).xe := passes_of (X := (cxOf (L2.CX P w) P w K mg base N_bounds "bounds" (defScope s_bounds) (He.ga K "bounds") cdv A outer s0 H0 E)) rfl
  have hu := hr.units
  exact (s_cons (s_if (q_cmp (o_eq hu) (e_ix (e_var (pv 0)) e_int) e_str (nomark _)) (s_one (s_ret (e_ix (e_var (pv 1)) (e_ix (e_var (pv 0)) e_int)))) s_nil)
    (s_cons (s_if (q_cmp (o_eq hu) (e_ix (e_var (pv 0)) e_int) e_str (nomark _)) (s_one (s_ret (e_tup (a_cons (e_tup (a_cons (e_ix (e_var (pv 0)) e_int) (a_cons e_int a_nil))) (a_cons (e_tup (a_cons (e_ix (e_var (pv 0)) e_int) (a_cons e_int a_nil))) a_nil))))) s_nil)
    (s_cons (s_asg (e_call (ih Z) hr tk rfl (a_cons (e_ix (e_var (pv 0)) e_int) (a_cons (e_var (pv 1)) a_nil)) (by omega)) (g_name (pg_name (i := 2) sc_bounds.nd rfl (Or.inl rfl))))
    (s_cons (s_if (q_cmp (o_eq hu) (e_ix (e_var (pv 0)) e_int) e_str (nomark _)) (s_one (s_ret (e_tup (a_cons (e_call (ok_turned Z) hr tk rfl (a_cons (e_ix (e_var (pv 2)) e_int) a_nil) (by omega)) (a_cons (e_call (ok_turned Z) hr tk rfl (a_cons (e_ix (e_var (pv 2)) e_int) a_nil) (by omega)) a_nil))))) s_nil)
    (s_cons (s_asg (e_tabF Z.d_OF_TWO rfl (e_ix (e_var (pv 0)) e_int)) (g_name (pg_name (i := 3) sc_bounds.nd rfl (Or.inl rfl))))
    (s_one (s_ret (e_callF (fun n g (h : (if n = "plus_of" then some (fun ds => if ds.length = 2 then d_plus_of ds else .bad) else (if n = "minus_of" then some (fun ds => if ds.length = 2 then d_minus_of ds else .bad) else (if n = "times_of" then some (fun ds => if ds.length = 2 then d_times_of ds else .bad) else none))) = some g) => (if q : n = "plus_of" then (by subst q; rw [if_pos rfl] at h; cases h; exact ⟨_, _, _, by omega, ok_plus_of Z, fun _ => rfl⟩) else (by rw [if_neg q] at h; exact (if q : n = "minus_of" then (by subst q; rw [if_pos rfl] at h; cases h; exact ⟨_, _, _, by omega, ok_minus_of Z, fun _ => rfl⟩) else (by rw [if_neg q] at h; exact (if q : n = "times_of" then (by subst q; rw [if_pos rfl] at h; cases h; exact ⟨_, _, _, by omega, ok_times_of Z, fun _ => rfl⟩) else (by rw [if_neg q] at h; exact (by cases h)))))))) hr tk rfl (by first | exact Or.inl rfl | exact Or.inr (Or.inl rfl)) (a_cons (e_var (pv 2)) (a_cons (e_call (ih Z) hr tk rfl (a_cons (e_ix (e_var (pv 0)) e_int) (a_cons (e_var (pv 1)) a_nil)) (by omega)) a_nil))))))))))
theorem sc__law_cell_at : FnScope N__law_cell_at ["script", "k"] (defScope s__law_cell_at) := ⟨rfl, rfl, rfl, by decide +kernel, rfl, by decide +kernel, by decide +kernel⟩
theorem ok__law_cell_at (Z : Top w K mg) : OkD P w K mg base T 1 "_law_cell_at" 2 d__law_cell_at := by
  obtain ⟨fd, Fd⟩ := Z.f__law_cell_at
  refine ⟨⟨fd, ["script", "k"], fn_ok Fd sc__law_cell_at rfl fun cdv A outer s0 H0 E F0 hr => ?_, Fd.bindsN (ps := ["script", "k"]) (fun _ _ _ _ _ _ us hl => match us, hl with | [_, _], _ => rfl)⟩, Fd.kp, Z.m__law_cell_at⟩
  have tk : Takes (cxOf (L2.CX P w) P w K mg base N__law_cell_at "_law_cell_at" (defScope s__law_cell_at) (He.ga K "_law_cell_at") cdv A outer s0 H0 E) (WofE E) := takes_of rfl rfl rfl rfl
  have po : PassesOwn (model P w) (cxOf (L2.CX P w) P w K mg base N__law_cell_at "_law_cell_at" (defScope s__law_cell_at) (He.ga K "_law_cell_at") cdv A outer s0 H0 E).A (cxOf (L2.CX P w) P w K mg base N__law_cell_at "_law_cell_at" (defScope s__law_cell_at) (He.ga K "_law_cell_at") cdv A outer s0 H0 E).env (cxOf (L2.CX P w) P w K mg base N__law_cell_at "_law_cell_at" (defScope s__law_cell_at) (He.ga K "_law_cell_at") cdv A outer s0 H0 E).xe := passes_of (X := (cxOf (L2.CX P w) P w K mg base N__law_cell_at "_law_cell_at" (defScope s__law_cell_at) (He.ga K "_law_cell_at") cdv A outer s0 H0 E)) rfl
  have hu := hr.units
  exact (s_cons (s_if (q_cmp o_lt (e_var (pv 1)) (e_callB c_len rfl Z.b_len bt_len (a_cons (e_var (pv 0)) a_nil)) (nomark _)) (s_one (s_ret (e_ix (e_var (pv 0)) (e_var (pv 1))))) s_nil)
    (s_one (s_ret e_int)))
theorem sc__law_mixed : FnScope N__law_mixed ["script", "k"] (defScope s__law_mixed) := ⟨rfl, rfl, rfl, by decide +kernel, rfl, by decide +kernel, by decide +kernel⟩
theorem ok__law_mixed (Z : Top w K mg) : OkD P w K mg base T 2 "_law_mixed" 2 d__law_mixed := by
  obtain ⟨fd, Fd⟩ := Z.f__law_mixed
  refine ⟨⟨fd, ["script", "k"], fn_ok Fd sc__law_mixed rfl fun cdv A outer s0 H0 E F0 hr => ?_, Fd.bindsN (ps := ["script", "k"]) (fun _ _ _ _ _ _ us hl => match us, hl with | [_, _], _ => rfl)⟩, Fd.kp, Z.m__law_mixed⟩
  have tk : Takes (cxOf (L2.CX P w) P w K mg base N__law_mixed "_law_mixed" (defScope s__law_mixed) (He.ga K "_law_mixed") cdv A outer s0 H0 E) (WofE E) := takes_of rfl rfl rfl rfl
  have po : PassesOwn (model P w) (cxOf (L2.CX P w) P w K mg base N__law_mixed "_law_mixed" (defScope s__law_mixed) (He.ga K "_law_mixed") cdv A outer s0 H0 E).A (cxOf (L2.CX P w) P w K mg base N__law_mixed "_law_mixed" (defScope s__law_mixed) (He.ga K "_law_mixed") cdv A outer s0 H0 E).env (cxOf (L2.CX P w) P w K mg base N__law_mixed "_law_mixed" (defScope s__law_mixed) (He.ga K "_law_mixed") cdv A outer s0 H0 E).xe := passes_of (X := (cxOf (L2.CX P w) P w K mg base N__law_mixed "_law_mixed" (defScope s__law_mixed) (He.ga K "_law_mixed") cdv A outer s0 H0 E)) rfl
  have hu := hr.units
  exact (s_cons (s_asg (e_bin o_mod (e_bin o_mul (e_bin o_add (e_bin o_add (e_call (ok__law_cell_at Z) hr tk rfl (a_cons (e_var (pv 0)) (a_cons (e_var (pv 1)) a_nil))) (e_bin o_mul e_int (e_var (pv 1)))) e_int) e_int) e_int) (g_name (pg_name (i := 2) sc__law_mixed.nd rfl (Or.inl rfl))))
    (s_one (s_ret (e_bin o_mod (e_bin o_add (e_bin o_add (e_bin o_mul (e_var (pv 2)) (e_var (pv 2))) (e_bin o_mul e_int (e_var (pv 2)))) (e_var (pv 1))) e_int))))
theorem sc__law_drawn : FnScope N__law_drawn ["number", "k"] (defScope s__law_drawn) := ⟨rfl, rfl, rfl, by decide +kernel, rfl, by decide +kernel, by decide +kernel⟩
theorem ok__law_drawn (Z : Top w K mg) : OkD P w K mg base T 1 "_law_drawn" 2 d__law_drawn := by
  obtain ⟨fd, Fd⟩ := Z.f__law_drawn
  refine ⟨⟨fd, ["number", "k"], fn_ok Fd sc__law_drawn rfl fun cdv A outer s0 H0 E F0 hr => ?_, Fd.bindsN (ps := ["number", "k"]) (fun _ _ _ _ _ _ us hl => match us, hl with | [_, _], _ => rfl)⟩, Fd.kp, Z.m__law_drawn⟩
  have tk : Takes (cxOf (L2.CX P w) P w K mg base N__law_drawn "_law_drawn" (defScope s__law_drawn) (He.ga K "_law_drawn") cdv A outer s0 H0 E) (WofE E) := takes_of rfl rfl rfl rfl
  have po : PassesOwn (model P w) (cxOf (L2.CX P w) P w K mg base N__law_drawn "_law_drawn" (defScope s__law_drawn) (He.ga K "_law_drawn") cdv A outer s0 H0 E).A (cxOf (L2.CX P w) P w K mg base N__law_drawn "_law_drawn" (defScope s__law_drawn) (He.ga K "_law_drawn") cdv A outer s0 H0 E).env (cxOf (L2.CX P w) P w K mg base N__law_drawn "_law_drawn" (defScope s__law_drawn) (He.ga K "_law_drawn") cdv A outer s0 H0 E).xe := passes_of (X := (cxOf (L2.CX P w) P w K mg base N__law_drawn "_law_drawn" (defScope s__law_drawn) (He.ga K "_law_drawn") cdv A outer s0 H0 E)) rfl
  have hu := hr.units
  exact (s_cons (s_asg (e_bin o_mod (e_bin o_mul (e_bin o_add (e_bin o_add (e_var (pv 0)) (e_bin o_mul e_int (e_var (pv 1)))) e_int) e_int) e_int) (g_name (pg_name (i := 2) sc__law_drawn.nd rfl (Or.inl rfl))))
    (s_one (s_ret (e_bin o_mod (e_bin o_add (e_bin o_add (e_bin o_mul (e_var (pv 2)) (e_var (pv 2))) (e_bin o_mul e_int (e_var (pv 2)))) (e_var (pv 1))) e_int))))
theorem sc__law_ten : FnScope N__law_ten ["power"] (defScope s__law_ten) := ⟨rfl, rfl, rfl, by decide +kernel, rfl, by decide +kernel, by decide +kernel⟩
theorem ok__law_ten (Z : Top w K mg) : OkD P w K mg base T 1 "_law_ten" 1 d__law_ten := by
  obtain ⟨fd, Fd⟩ := Z.f__law_ten
  refine ⟨⟨fd, ["power"], fn_ok Fd sc__law_ten rfl fun cdv A outer s0 H0 E F0 hr => ?_, Fd.bindsN (ps := ["power"]) (fun _ _ _ _ _ _ us hl => match us, hl with | [_], _ => rfl)⟩, Fd.kp, Z.m__law_ten⟩
  have tk : Takes (cxOf (L2.CX P w) P w K mg base N__law_ten "_law_ten" (defScope s__law_ten) (He.ga K "_law_ten") cdv A outer s0 H0 E) (WofE E) := takes_of rfl rfl rfl rfl
  have po : PassesOwn (model P w) (cxOf (L2.CX P w) P w K mg base N__law_ten "_law_ten" (defScope s__law_ten) (He.ga K "_law_ten") cdv A outer s0 H0 E).A (cxOf (L2.CX P w) P w K mg base N__law_ten "_law_ten" (defScope s__law_ten) (He.ga K "_law_ten") cdv A outer s0 H0 E).env (cxOf (L2.CX P w) P w K mg base N__law_ten "_law_ten" (defScope s__law_ten) (He.ga K "_law_ten") cdv A outer s0 H0 E).xe := passes_of (X := (cxOf (L2.CX P w) P w K mg base N__law_ten "_law_ten" (defScope s__law_ten) (He.ga K "_law_ten") cdv A outer s0 H0 E)) rfl
  have hu := hr.units
  exact (s_cons (s_asg e_int (g_name (pg_name (i := 1) sc__law_ten.nd rfl (Or.inl rfl))))
    (s_cons (s_for po rfl (i_rng1 rfl Z.b_range (a_cons (e_var (pv 0)) a_nil)) (g_name (pg_name (i := 2) sc__law_ten.nd rfl (Or.inl rfl))) (s_one (s_asg (e_bin o_mul (e_var (pv 1)) e_int) (g_name (pg_name (i := 1) sc__law_ten.nd rfl (Or.inl rfl))))))
    (s_one (s_ret (e_var (pv 1))))))
theorem sc__law_tidy : FnScope N__law_tidy ["digits", "power"] (defScope s__law_tidy) := ⟨rfl, rfl, rfl, by decide +kernel, rfl, by decide +kernel, by decide +kernel⟩
theorem ok__law_tidy (Z : Top w K mg) : OkD P w K mg base T 1 "_law_tidy" 2 d__law_tidy := by
  obtain ⟨fd, Fd⟩ := Z.f__law_tidy
  refine ⟨⟨fd, ["digits", "power"], fn_ok Fd sc__law_tidy rfl fun cdv A outer s0 H0 E F0 hr => ?_, Fd.bindsN (ps := ["digits", "power"]) (fun _ _ _ _ _ _ us hl => match us, hl with | [_, _], _ => rfl)⟩, Fd.kp, Z.m__law_tidy⟩
  have tk : Takes (cxOf (L2.CX P w) P w K mg base N__law_tidy "_law_tidy" (defScope s__law_tidy) (He.ga K "_law_tidy") cdv A outer s0 H0 E) (WofE E) := takes_of rfl rfl rfl rfl
  have po : PassesOwn (model P w) (cxOf (L2.CX P w) P w K mg base N__law_tidy "_law_tidy" (defScope s__law_tidy) (He.ga K "_law_tidy") cdv A outer s0 H0 E).A (cxOf (L2.CX P w) P w K mg base N__law_tidy "_law_tidy" (defScope s__law_tidy) (He.ga K "_law_tidy") cdv A outer s0 H0 E).env (cxOf (L2.CX P w) P w K mg base N__law_tidy "_law_tidy" (defScope s__law_tidy) (He.ga K "_law_tidy") cdv A outer s0 H0 E).xe := passes_of (X := (cxOf (L2.CX P w) P w K mg base N__law_tidy "_law_tidy" (defScope s__law_tidy) (He.ga K "_law_tidy") cdv A outer s0 H0 E)) rfl
  have hu := hr.units
  exact (s_cons (s_if (q_cmp (o_eq hu) (e_var (pv 0)) e_int (nomark _)) (s_one (s_ret (e_tup (a_cons e_int (a_cons e_int a_nil))))) s_nil)
    (s_cons (s_while 100000 po (q_cmp (o_eq hu) (e_bin o_mod (e_var (pv 0)) e_int) e_int (nomark _)) (s_cons (s_asg (e_bin o_div (e_var (pv 0)) e_int) (g_name (pg_name (i := 0) sc__law_tidy.nd rfl (Or.inl rfl))))
    (s_one (s_asg (e_bin o_add (e_var (pv 1)) e_int) (g_name (pg_name (i := 1) sc__law_tidy.nd rfl (Or.inl rfl)))))))
    (s_one (s_ret (e_tup (a_cons (e_var (pv 0)) (a_cons (e_var (pv 1)) a_nil)))))))
theorem sc__law_formula : FnScope N__law_formula ["number", "deep"] (defScope s__law_formula) := ⟨rfl, rfl, rfl, by decide +kernel, rfl, by decide +kernel, by decide +kernel⟩
theorem ok__law_formula (n : Nat) (Z : Top w K mg) : OkD P w K mg base T (n * 1 + 2) "_law_formula" 2 (d__law_formula n) := by
  induction n with
  | zero => exact ok_bad (k := 1) (Z.f__law_formula) (Z.m__law_formula) sc__law_formula rfl (fun fd Fd => Fd.bindsN (ps := ["number", "deep"]) (fun _ _ _ _ _ _ us hl => match us, hl with | [_, _], _ => rfl))
  | succ n ih0 =>
  have ih : Top w K mg → OkD P w K mg base T (n * 1 + 2) "_law_formula" 2 (d__law_formula n) := fun _ => ih0
  have e : (n + 1) * 1 + 2 = (n * 1 + 0 + 2) + 1 := by omega
  rw [e]
  obtain ⟨fd, Fd⟩ := Z.f__law_formula
  refine ⟨⟨fd, ["number", "deep"], fn_ok Fd sc__law_formula rfl fun cdv A outer s0 H0 E F0 hr => ?_, Fd.bindsN (ps := ["number", "deep"]) (fun _ _ _ _ _ _ us hl => match us, hl with | [_, _], _ => rfl)⟩, Fd.kp, Z.m__law_formula⟩
  have tk : Takes (cxOf (L2.CX P w) P w K mg base N__law_formula "_law_formula" (defScope s__law_formula) (He.ga K "_law_formula") cdv A outer s0 H0 E) (WofE E) := takes_of rfl rfl rfl rfl
  have po : PassesOwn (model P w) (cxOf (L2.CX P w) P w K mg base N__law_formula "_law_formula" (defScope s__law_formula) (He.ga K "_law_formula") cdv A outer s0 H0 E).A (cxOf (L2.CX P w) P w K mg base N__law_formula "_law_formula" (defScope s__law_formula) (He.ga K "_law_formula") cdv A outer s0 H0 E).env (cxOf (L2.CX P w) P w K mg base N__law_formula "_law_formula" (defScope s__law_formula) (He.ga K "_law_formula") cdv A outer s0 H0 E).xe := passes_of (X := (cxOf (L2.CX P w) P w K mg base N__law_formula "_law_formula" (defScope s__law_formula) (He.ga K "_law_formula") cdv A outer s0 H0 E)) rfl
  have hu := hr.units
  exact (s_cons (s_if (q_w (w_or (q_cmp (o_eq hu) (e_var (pv 1)) e_int (nomark _)) (w_or1 (q_cmp (o_eq hu) (e_bin o_mod (e_var (pv 0)) e_int) e_int (nomark _))))) (s_one (s_ret (e_ix (e_lst (a_cons (e_tup (a_cons e_str (a_cons (e_bin o_mod (e_bin o_div (e_var (pv 0)) e_int) e_int) a_nil))) (a_cons (e_tup (a_cons e_str (a_cons (e_bin o_mod (e_bin o_div (e_var (pv 0)) e_int) e_int) a_nil))) a_nil))) (e_bin o_mod (e_bin o_div (e_var (pv 0)) e_int) e_int)))) s_nil)
    (s_cons (s_asg (e_call (ih Z) hr tk rfl (a_cons (e_bin o_div (e_call (ok__law_drawn Z) hr tk rfl (a_cons (e_var (pv 0)) (a_cons e_int a_nil)) (by omega)) e_int) (a_cons (e_bin o_sub (e_var (pv 1)) e_int) a_nil)) (by omega)) (g_name (pg_name (i := 2) sc__law_formula.nd rfl (Or.inl rfl))))
    (s_cons (s_if (q_cmp (o_eq hu) (e_bin o_mod (e_var (pv 0)) e_int) e_int (nomark _)) (s_one (s_ret (e_tup (a_cons e_str (a_cons (e_var (pv 2)) a_nil))))) s_nil)
    (s_cons (s_asg (e_call (ih Z) hr tk rfl (a_cons (e_bin o_div (e_call (ok__law_drawn Z) hr tk rfl (a_cons (e_var (pv 0)) (a_cons e_int a_nil)) (by omega)) e_int) (a_cons (e_bin o_sub (e_bin o_sub (e_var (pv 1)) e_int) (e_bin o_mul (e_bin o_mod (e_bin o_div (e_var (pv 0)) e_int) e_int) (e_callTy c_int rfl Z.b_int bt_int (a_cons (e_cmp o_gt (e_var (pv 1)) e_int (nomark _)) a_nil)))) a_nil)) (by omega)) (g_name (pg_name (i := 3) sc__law_formula.nd rfl (Or.inl rfl))))
    (s_one (s_ret (e_tup (a_cons (e_ix (e_tup (a_cons e_str (a_cons e_str (a_cons e_str a_nil)))) (e_bin o_mod (e_bin o_div (e_var (pv 0)) e_int) e_int)) (a_cons (e_var (pv 2)) (a_cons (e_var (pv 3)) a_nil))))))))))
theorem sc__law_value : FnScope N__law_value ["formula", "boxes"] (defScope s__law_value) := ⟨rfl, rfl, rfl, by decide +kernel, rfl, by decide +kernel, by decide +kernel⟩
theorem ok__law_value (n : Nat) (Z : Top w K mg) : OkD P w K mg base T (n * 1 + 1) "_law_value" 2 (d__law_value n) := by
  induction n with
  | zero => exact ok_bad (k := 0) (Z.f__law_value) (Z.m__law_value) sc__law_value rfl (fun fd Fd => Fd.bindsN (ps := ["formula", "boxes"]) (fun _ _ _ _ _ _ us hl => match us, hl with | [_, _], _ => rfl))
  | succ n ih0 =>
  have ih : Top w K mg → OkD P w K mg base T (n * 1 + 1) "_law_value" 2 (d__law_value n) := fun _ => ih0
  have e : (n + 1) * 1 + 1 = (n * 1 + 0 + 1) + 1 := by omega
  rw [e]
  obtain ⟨fd, Fd⟩ := Z.f__law_value
  refine ⟨⟨fd, ["formula", "boxes"], fn_ok Fd sc__law_value rfl fun cdv A outer s0 H0 E F0 hr => ?_, Fd.bindsN (ps := ["formula", "boxes"]) (fun _ _ _ _ _ _ us hl => match us, hl with | [_, _], _ => rfl)⟩, Fd.kp, Z.m__law_value⟩
  have tk : Takes (cxOf (L2.CX P w) P w K mg base N__law_value "_law_value" (defScope s__law_value) (He.ga K "_law_value") cdv A outer s0 H0 E) (WofE E) := takes_of rfl rfl rfl rfl
  have po : PassesOwn (model P w) (cxOf (L2.CX P w) P w K mg base N__law_value "_law_value" (defScope s__law_value) (He.ga K "_law_value") cdv A outer s0 H0 E).A (cxOf (L2.CX P w) P w K mg base N__law_value "_law_value" (defScope s__law_value) (He.ga K "_law_value") cdv A outer s0 H0 E).env (cxOf (L2.CX P w) P w K mg base N__law_value "_law_value" (defScope s__law_value) (He.ga K "_law_value") cdv A outer s0 H0 E).xe := passes_of (X := (cxOf (L2.CX P w) P w K mg base N__law_value "_law_value" (defScope s__law_value) (He.ga K "_law_value") cdv A outer s0 H0 E)) rfl
  have hu := hr.units
  exact (s_cons (s_if (q_cmp (o_eq hu) (e_ix (e_var (pv 0)) e_int) e_str (nomark _)) (s_one (s_ret (e_ix (e_var (pv 1)) (e_ix (e_var (pv 0)) e_int)))) s_nil)
    (s_cons (s_if (q_cmp (o_eq hu) (e_ix (e_var (pv 0)) e_int) e_str (nomark _)) (s_one (s_ret (e_ix (e_var (pv 0)) e_int))) s_nil)
    (s_cons (s_setLc (j := 2) (x := "part") (i := 3) rfl sc__law_value.nd rfl rfl (sw_true rfl rfl rfl (by decide +kernel)) (i_any (e_sl (e_var (pv 0)) (p_some e_int) p_none)) (blkOk_by (N := N__law_value) (sc := defScope s__law_value) (by decide +kernel)) (fun _ _ _ _ _ => pg_name (i := 3) sc__law_value.nd rfl (Or.inl rfl)) (fun _ _ _ _ _ => ts_nil) (fun _ _ _ _ _ => (e_call (ih Z) hr L2.takes0 rfl (a_cons (e_var (pv 3)) (a_cons (e_var (pv 1)) a_nil)) (by omega))))
    (s_cons (s_if (q_cmp (o_eq hu) (e_ix (e_var (pv 0)) e_int) e_str (nomark _)) (s_one (s_ret (e_una u_neg (e_ix (e_var (pv 2)) e_int)))) s_nil)
    (s_one (s_ret (e_dix (ks := ["plus", "minus", "times"]) (lt1 hu) (dp_cons (e_bin o_add (e_ix (e_var (pv 2)) e_int) (e_ix (e_var (pv 2)) e_int)) (dp_cons (e_bin o_sub (e_ix (e_var (pv 2)) e_int) (e_ix (e_var (pv 2)) e_int)) (dp_cons (e_bin o_mul (e_ix (e_var (pv 2)) e_int) (e_ix (e_var (pv 2)) e_int)) dp_nil))) (e_ix (e_var (pv 0)) e_int) (by simp) (by decide) (by decide +kernel) (fun _ _ => rfl))))))))
theorem sc__law_level : FnScope N__law_level ["number"] (defScope s__law_level) := ⟨rfl, rfl, rfl, by decide +kernel, rfl, by decide +kernel, by decide +kernel⟩
theorem ok__law_level (Z : Top w K mg) : OkD P w K mg base T 2 "_law_level" 1 d__law_level := by
  obtain ⟨fd, Fd⟩ := Z.f__law_level
  refine ⟨⟨fd, ["number"], fn_ok Fd sc__law_level rfl fun cdv A outer s0 H0 E F0 hr => ?_, Fd.bindsN (ps := ["number"]) (fun _ _ _ _ _ _ us hl => match us, hl with | [_], _ => rfl)⟩, Fd.kp, Z.m__law_level⟩
  have tk : Takes (cxOf (L2.CX P w) P w K mg base N__law_level "_law_level" (defScope s__law_level) (He.ga K "_law_level") cdv A outer s0 H0 E) (WofE E) := takes_of rfl rfl rfl rfl
  have po : PassesOwn (model P w) (cxOf (L2.CX P w) P w K mg base N__law_level "_law_level" (defScope s__law_level) (He.ga K "_law_level") cdv A outer s0 H0 E).A (cxOf (L2.CX P w) P w K mg base N__law_level "_law_level" (defScope s__law_level) (He.ga K "_law_level") cdv A outer s0 H0 E).env (cxOf (L2.CX P w) P w K mg base N__law_level "_law_level" (defScope s__law_level) (He.ga K "_law_level") cdv A outer s0 H0 E).xe := passes_of (X := (cxOf (L2.CX P w) P w K mg base N__law_level "_law_level" (defScope s__law_level) (He.ga K "_law_level") cdv A outer s0 H0 E)) rfl
  have hu := hr.units
  exact (s_one (s_ret (e_bin o_mul (e_ix (e_var (pv 0)) e_int) (e_call (ok__law_ten Z) hr tk rfl (a_cons (e_bin o_add (e_ix (e_var (pv 0)) e_int) e_int) a_nil)))))
theorem sc__law_within : FnScope N__law_within_v2 ["pair", "low", "high"] (defScope s__law_within) := ⟨rfl, rfl, rfl, by decide +kernel, rfl, by decide +kernel, by decide +kernel⟩
theorem ok__law_within (Z : Top w K mg) : OkD P w K mg base T 3 "_law_within" 3 d__law_within_v2 := by
  obtain ⟨fd, Fd⟩ := Z.f__law_within
  refine ⟨⟨fd, ["pair", "low", "high"], fn_ok Fd sc__law_within rfl fun cdv A outer s0 H0 E F0 hr => ?_, Fd.bindsN (ps := ["pair", "low", "high"]) (fun _ _ _ _ _ _ us hl => match us, hl with | [_, _, _], _ => rfl)⟩, Fd.kp, Z.m__law_within⟩
  have tk : Takes (cxOf (L2.CX P w) P w K mg base N__law_within_v2 "_law_within" (defScope s__law_within) (He.ga K "_law_within") cdv A outer s0 H0 E) (WofE E) := takes_of rfl rfl rfl rfl
  have po : PassesOwn (model P w) (cxOf (L2.CX P w) P w K mg base N__law_within_v2 "_law_within" (defScope s__law_within) (He.ga K "_law_within") cdv A outer s0 H0 E).A (cxOf (L2.CX P w) P w K mg base N__law_within_v2 "_law_within" (defScope s__law_within) (He.ga K "_law_within") cdv A outer s0 H0 E).env (cxOf (L2.CX P w) P w K mg base N__law_within_v2 "_law_within" (defScope s__law_within) (He.ga K "_law_within") cdv A outer s0 H0 E).xe := passes_of (X := (cxOf (L2.CX P w) P w K mg base N__law_within_v2 "_law_within" (defScope s__law_within) (He.ga K "_law_within") cdv A outer s0 H0 E)) rfl
  have hu := hr.units
  exact (s_one (s_ret (e_and (e_cmp o_le (e_call (ok__law_level Z) hr tk rfl (a_cons (e_ix (e_var (pv 0)) e_int) a_nil)) (e_var (pv 1)) (nomark _)) (e_one (e_cmp o_le (e_var (pv 2)) (e_call (ok__law_level Z) hr tk rfl (a_cons (e_ix (e_var (pv 0)) e_int) a_nil)) (nomark _))))))
def N_law : List Str := ["script", "formula", "wide", "narrow", "points", "k", "number", "low", "some", "turn", "outer", "inner", "drawn", "boxes", "at", "scaled", "single", "found"]
def b1_law : Rho → SR :=
  (sapp 8 (bop addD (ixO 8 (una negD (con (.int 1)))) (bop modD (bop divD (callD 2 d__law_drawn (acons (var 6) (acons (var 9) anil))) (con (.int 4))) (bop ixD (mkT (acons (con (.int 3)) (acons (con (.int 100)) (acons (con (.int 4000)) (acons (con (.int 1)) anil))))) (bop modD (bop divD (var 6) (con (.int 32768))) (con (.int 4)))))))
def b2_law : Rho → SR :=
  (sseq (sasg (callD 2 d__law_mixed (acons (var 0) (acons (bop addD (con (.int 2)) (var 5)) anil))) (gn 6))
    (sseq (sasg (bop subD (bop modD (var 6) (con (.int 20001))) (con (.int 10000))) (gn 7))
    (sseq (sown (mkL (acons (var 7) anil)) 8)
    (sseq (sfor (rng1 (acons (con (.int 4)) anil)) (gn 9) b1_law)
    (sfrz 8 (sseq (sapp 2 (mkT (acons (callD 2 d__law_tidy (acons (bop ixD (var 8) (con (.int 0))) (acons (con (.int 0)) anil))) (acons (callD 2 d__law_tidy (acons (bop ixD (var 8) (con (.int 4))) (acons (con (.int 0)) anil))) anil))))
    (sseq (sapp 3 (mkT (acons (callD 2 d__law_tidy (acons (bop ixD (var 8) (con (.int 1))) (acons (con (.int 0)) anil))) (acons (callD 2 d__law_tidy (acons (bop ixD (var 8) (con (.int 3))) (acons (con (.int 0)) anil))) anil))))
    (sapp 4 (mkT (acons (bop ixD (var 8) (con (.int 1))) (acons (bop ixD (var 8) (con (.int 2))) (acons (bop ixD (var 8) (con (.int 3))) anil))))))))))))
def e3_law : Rho → Res D :=
  (bop ixD (bop ixD (var 4) (var 14)) (bop modD (bop divD (var 12) (bop ixD (mkT (acons (con (.int 1)) (acons (con (.int 3)) (acons (con (.int 9)) anil)))) (var 14))) (con (.int 3))))
def b4_law : Rho → SR :=
  (sseq (sasg (bop divD (callD 2 d__law_drawn (acons (var 6) (acons (var 5) anil))) (con (.int 4))) (gn 12))
    (sseq (sasg (cal tupD (acons (lcD (rng1 (acons (con (.int 3)) anil)) 14 yes e3_law) anil)) (gn 13))
    (sseq (sasg (bop mulD (callD 2 (d__law_value 12) (acons (var 1) (acons (var 13) anil))) (callD 1 d__law_ten (acons (con (.int 50)) anil))) (gn 15))
    (sif (notQ (tst (callD 3 d__law_within_v2 (acons (var 11) (acons (var 15) (acons (var 15) anil)))))) (sret (con (.bl false))) sskip))))
def e5_law : Rho → Res D :=
  (mkT (acons (callD 2 d__law_tidy (acons (bop modD (var 14) (con (.int 10))) (acons (con (.int 0)) anil))) (acons (callD 2 d__law_tidy (acons (bop modD (var 14) (con (.int 10))) (acons (con (.int 0)) anil))) anil)))
def t17_law : Rho → SR :=
  (sret (andE (callD 3 d__law_within_v2 (acons (var 17) (acons (var 15) (acons (var 15) anil)))) (orE (bop gtD (cal lenD (acons (cal reprD (acons (var 1) anil)) anil)) (con (.int 60))) (bop eqD (bop ixD (var 17) (con (.int 0))) (bop ixD (var 17) (con (.int 1)))))))
def t16_law : Rho → SR :=
  sseq (sasg (bop mulD (callD 2 (d__law_value 12) (acons (var 1) (acons (var 13) anil))) (callD 1 d__law_ten (acons (con (.int 50)) anil))) (gn 15)) (t17_law)
def t15_law : Rho → SR :=
  sseq (sasg (callD 2 (d_bounds 12) (acons (var 1) (acons (var 16) anil))) (gn 17)) (t16_law)
def t14_law : Rho → SR :=
  sseq (sasg (mkT (acons (bop modD (var 6) (con (.int 10))) (acons (bop modD (bop divD (var 6) (con (.int 10))) (con (.int 10))) (acons (bop modD (bop divD (var 6) (con (.int 100))) (con (.int 10))) anil)))) (gn 13)) (t15_law)
def t13_law : Rho → SR :=
  sseq (sasg (cal tupD (acons (lcD (its (mkT (acons (var 6) (acons (bop divD (var 6) (con (.int 10))) (acons (bop divD (var 6) (con (.int 100))) anil))))) 14 yes e5_law) anil)) (gn 16)) (t14_law)
def t12_law : Rho → SR :=
  sseq (sfor (rng1 (acons (con (.int 4)) anil)) (gn 5) b4_law) (t13_law)
def t11_law : Rho → SR :=
  sseq (sasg (callD 2 d__law_mixed (acons (var 0) (acons (con (.int 5)) anil))) (gn 6)) (t12_law)
def t10_law : Rho → SR :=
  sseq (sif (notQ (tst (callD 3 d__law_within_v2 (acons (bop ixD (var 10) (con (.int 1))) (acons (callD 1 d__law_level (acons (bop ixD (var 11) (con (.int 0))) anil)) (acons (callD 1 d__law_level (acons (bop ixD (var 11) (con (.int 1))) anil)) anil)))))) (sret (con (.bl false))) sskip) (t11_law)
def t9_law : Rho → SR :=
  sseq (sasg (bop ixD (var 11) (con (.int 1))) (gn 11)) (t10_law)
def t8_law : Rho → SR :=
  sseq (sif (tst (bop eqD (bop ixD (var 11) (con (.int 0))) (con (.str "refused")))) (sret (con (.bl false))) sskip) (t9_law)
def t7_law : Rho → SR :=
  sseq (sif (tst (bop eqD (bop ixD (var 10) (con (.int 0))) (con (.str "refused")))) (sret (bop eqD (var 10) (mkT (acons (con (.str "refused")) (acons (con (.int 0)) anil))))) sskip) (t8_law)
def t6_law : Rho → SR :=
  sseq (sasg (toldD (callD 2 (d_bounds 12) (acons (var 1) (acons (cal tupD (acons (var 3) anil)) anil)))) (gn 11)) (t7_law)
def t5_law : Rho → SR :=
  (sfrz 4 (sfrz 3 (sfrz 2 (sseq (sasg (toldD (callD 2 (d_bounds 12) (acons (var 1) (acons (cal tupD (acons (var 2) anil)) anil)))) (gn 10)) (t6_law)))))
def t4_law : Rho → SR :=
  sseq (sfor (rng1 (acons (con (.int 3)) anil)) (gn 5) b2_law) (t5_law)
def t3_law : Rho → SR :=
  sseq (sown (mkL anil) 4) (t4_law)
def t2_law : Rho → SR :=
  sseq (sown (mkL anil) 3) (t3_law)
def t1_law : Rho → SR :=
  sseq (sown (mkL anil) 2) (t2_law)
def g_law : Rho → SR :=
  sseq (sasg (callD 2 (d__law_formula 12) (acons (callD 2 d__law_mixed (acons (var 0) (acons (con (.int 0)) anil))) (acons (bop addD (con (.int 1)) (bop modD (callD 2 d__law_mixed (acons (var 0) (acons (con (.int 1)) anil))) (con (.int 5)))) anil))) (gn 1)) (t1_law)
def d_law (ds : List D) : Res D := runB 18 g_law ds
theorem v_law {a0 : D} : d_law [a0] = finR (g_law [.z a0, .u, .u, .u, .u, .u, .u, .u, .u, .u, .u, .u, .u, .u, .u, .u, .u, .u]) := runB_eq rfl
theorem sc_law : FnScope N_law ["script"] (defScope s_law) := ⟨rfl, rfl, rfl, by decide +kernel, rfl, by decide +kernel, by decide +kernel⟩
theorem law_fn (Z : Top w K mg) (B : ∀ d ∈ tfs, LamX.TabB base mg (He.cT K d).1 (He.cT K d).2) {fd : FuncData} (Fd : FunD K "law" "law" (defArgs s_law) (defBody s_law) (defScope s_law) [] [] (He.ga K "law") fd) : FnAt P w K mg base (He.ga K "law") fd ["script"] (spD K (tabT K) 1 d_law) := by
  refine fn_at (k := 23) Fd sc_law rfl ⟨rfl, by decide, by decide⟩ fun s0 H0 E F0 hr => ?_
  obtain ⟨fdt, Ft⟩ := Z.f__law_told
  have tk : Takes (cxOf (L2.CX P w) P w K mg base N_law "law" (defScope s_law) (He.ga K "law") (.ref (He.cT K ("law", none)).1) callerA [] s0 H0 E) (WofE E) := takes_of rfl rfl rfl rfl
  have po : PassesOwn (model P w) (cxOf (L2.CX P w) P w K mg base N_law "law" (defScope s_law) (He.ga K "law") (.ref (He.cT K ("law", none)).1) callerA [] s0 H0 E).A (cxOf (L2.CX P w) P w K mg base N_law "law" (defScope s_law) (He.ga K "law") (.ref (He.cT K ("law", none)).1) callerA [] s0 H0 E).env (cxOf (L2.CX P w) P w K mg base N_law "law" (defScope s_law) (He.ga K "law") (.ref (He.cT K ("law", none)).1) callerA [] s0 H0 E).xe := passes_of (X := (cxOf (L2.CX P w) P w K mg base N_law "law" (defScope s_law) (He.ga K "law") (.ref (He.cT K ("law", none)).1) callerA [] s0 H0 E)) rfl
  have hu := hr.units
  exact (s_cons (s_asg (e_call (ok__law_formula 12 Z) hr tk rfl (a_cons (e_call (ok__law_mixed Z) hr tk rfl (a_cons (e_var (pv 0)) (a_cons e_int a_nil))) (a_cons (e_bin o_add e_int (e_bin o_mod (e_call (ok__law_mixed Z) hr tk rfl (a_cons (e_var (pv 0)) (a_cons e_int a_nil))) e_int)) a_nil))) (g_name (pg_name (i := 1) sc_law.nd rfl (Or.inr rfl))))
    (s_cons (s_own (o_lst a_nil) (pg_name (i := 2) sc_law.nd rfl (Or.inr rfl)))
    (s_cons (s_own (o_lst a_nil) (pg_name (i := 3) sc_law.nd rfl (Or.inr rfl)))
    (s_cons (s_own (o_lst a_nil) (pg_name (i := 4) sc_law.nd rfl (Or.inr rfl)))
    (s_cons (s_for po rfl (i_rng1 rfl Z.b_range (a_cons e_int a_nil)) (g_name (pg_name (i := 5) sc_law.nd rfl (Or.inl rfl))) (s_cons (s_asg (e_call (ok__law_mixed Z) hr tk rfl (a_cons (e_var (pv 0)) (a_cons (e_bin o_add e_int (e_var (pv 5))) a_nil))) (g_name (pg_name (i := 6) sc_law.nd rfl (Or.inl rfl))))
    (s_cons (s_asg (e_bin o_sub (e_bin o_mod (e_var (pv 6)) e_int) e_int) (g_name (pg_name (i := 7) sc_law.nd rfl (Or.inl rfl))))
    (s_cons (s_own (o_lst (a_cons (e_var (pv 7)) a_nil)) (pg_name (i := 8) sc_law.nd rfl (Or.inl rfl)))
    (s_cons (s_for po rfl (i_rng1 rfl Z.b_range (a_cons e_int a_nil)) (g_name (pg_name (i := 9) sc_law.nd rfl (Or.inl rfl))) (s_one (s_app (pv 8) (e_bin o_add (e_ixO (pv 8) (e_una u_neg e_int)) (e_bin o_mod (e_bin o_div (e_call (ok__law_drawn Z) hr tk rfl (a_cons (e_var (pv 6)) (a_cons (e_var (pv 9)) a_nil))) e_int) (e_ix (e_tup (a_cons e_int (a_cons e_int (a_cons e_int (a_cons e_int a_nil))))) (e_bin o_mod (e_bin o_div (e_var (pv 6)) e_int) e_int)))))))
    (s_frz 8 (s_cons (s_app (pv 2) (e_tup (a_cons (e_call (ok__law_tidy Z) hr tk rfl (a_cons (e_ix (e_var (pv 8)) e_int) (a_cons e_int a_nil))) (a_cons (e_call (ok__law_tidy Z) hr tk rfl (a_cons (e_ix (e_var (pv 8)) e_int) (a_cons e_int a_nil))) a_nil))))
    (s_cons (s_app (pv 3) (e_tup (a_cons (e_call (ok__law_tidy Z) hr tk rfl (a_cons (e_ix (e_var (pv 8)) e_int) (a_cons e_int a_nil))) (a_cons (e_call (ok__law_tidy Z) hr tk rfl (a_cons (e_ix (e_var (pv 8)) e_int) (a_cons e_int a_nil))) a_nil))))
    (s_one (s_app (pv 4) (e_tup (a_cons (e_ix (e_var (pv 8)) e_int) (a_cons (e_ix (e_var (pv 8)) e_int) (a_cons (e_ix (e_var (pv 8)) e_int) a_nil))))))))))))))
    (s_frz 4 (s_frz 3 (s_frz 2 (s_cons (s_asg (e_told (k := 21) (q := ("law" : Str) ++ ".<locals>." ++ "<lambda>") Ft Z.m__law_told (Ft.bindsN (ps := ["deed"]) (fun _ _ _ _ _ _ us hl => match us, hl with | [_], _ => rfl)) sc__law_told (fun _ => told_gives toldS Z.told rfl rfl rfl) (B ("law", none) (by unfold tfs; simp)) rfl rfl (by unfold tabT; simp) Z.hu_law rfl hr (by show LamX.lamSB (defScope s_law) _ = true; decide +kernel) (fun _ _ _ _ _ _ _ hr => (e_call (ok_bounds 12 Z) hr (takes_of rfl rfl rfl rfl) rfl (a_cons (e_var (pv 1)) (a_cons (e_callTy c_tup rfl Z.b_tuple bt_tuple (a_cons (e_var (pv 2)) a_nil)) a_nil))))) (g_name (pg_name (i := 10) sc_law.nd rfl (Or.inl rfl))))
    (s_cons (s_asg (e_told (k := 21) (q := ("law" : Str) ++ ".<locals>." ++ "<lambda>") Ft Z.m__law_told (Ft.bindsN (ps := ["deed"]) (fun _ _ _ _ _ _ us hl => match us, hl with | [_], _ => rfl)) sc__law_told (fun _ => told_gives toldS Z.told rfl rfl rfl) (B ("law", none) (by unfold tfs; simp)) rfl rfl (by unfold tabT; simp) Z.hu_law rfl hr (by show LamX.lamSB (defScope s_law) _ = true; decide +kernel) (fun _ _ _ _ _ _ _ hr => (e_call (ok_bounds 12 Z) hr (takes_of rfl rfl rfl rfl) rfl (a_cons (e_var (pv 1)) (a_cons (e_callTy c_tup rfl Z.b_tuple bt_tuple (a_cons (e_var (pv 3)) a_nil)) a_nil))))) (g_name (pg_name (i := 11) sc_law.nd rfl (Or.inl rfl))))
    (s_cons (s_if (q_cmp (o_eq hu) (e_ix (e_var (pv 10)) e_int) e_str (nomark _)) (s_one (s_ret (e_cmp (o_eq hu) (e_var (pv 10)) (e_tup (a_cons e_str (a_cons e_int a_nil))) (nomark _)))) s_nil)
    (s_cons (s_if (q_cmp (o_eq hu) (e_ix (e_var (pv 11)) e_int) e_str (nomark _)) (s_one (s_ret e_bl)) s_nil)
    (s_cons (s_asg (e_ix (e_var (pv 11)) e_int) (g_name (pg_name (i := 11) sc_law.nd rfl (Or.inl rfl))))
    (s_cons (s_if (q_not (q_val (e_call (ok__law_within Z) hr tk rfl (a_cons (e_ix (e_var (pv 10)) e_int) (a_cons (e_call (ok__law_level Z) hr tk rfl (a_cons (e_ix (e_var (pv 11)) e_int) a_nil)) (a_cons (e_call (ok__law_level Z) hr tk rfl (a_cons (e_ix (e_var (pv 11)) e_int) a_nil)) a_nil)))))) (s_one (s_ret e_bl)) s_nil)
    (s_cons (s_asg (e_call (ok__law_mixed Z) hr tk rfl (a_cons (e_var (pv 0)) (a_cons e_int a_nil))) (g_name (pg_name (i := 6) sc_law.nd rfl (Or.inl rfl))))
    (s_cons (s_for po rfl (i_rng1 rfl Z.b_range (a_cons e_int a_nil)) (g_name (pg_name (i := 5) sc_law.nd rfl (Or.inl rfl))) (s_cons (s_asg (e_bin o_div (e_call (ok__law_drawn Z) hr tk rfl (a_cons (e_var (pv 6)) (a_cons (e_var (pv 5)) a_nil))) e_int) (g_name (pg_name (i := 12) sc_law.nd rfl (Or.inr rfl))))
    (s_cons (s_asg (e_callTy c_tup rfl Z.b_tuple bt_tuple (a_cons (e_lc (x := "at") (i := 14) rfl sc_law.nd (i_rng1 rfl Z.b_range (a_cons e_int a_nil)) (blkOk_by (N := N_law) (sc := defScope s_law) (by decide +kernel)) (fun _ _ _ _ _ => pg_name (i := 14) sc_law.nd rfl (Or.inl rfl)) (fun _ _ _ _ _ => ts_nil) (fun _ _ _ _ _ => (e_ix (e_ix (e_var (pv 4)) (e_var (pv 14))) (e_bin o_mod (e_bin o_div (e_var (pv 12)) (e_ix (e_tup (a_cons e_int (a_cons e_int (a_cons e_int a_nil)))) (e_var (pv 14)))) e_int)))) a_nil)) (g_name (pg_name (i := 13) sc_law.nd rfl (Or.inl rfl))))
    (s_cons (s_asg (e_bin o_mul (e_call (ok__law_value 12 Z) hr tk rfl (a_cons (e_var (pv 1)) (a_cons (e_var (pv 13)) a_nil))) (e_call (ok__law_ten Z) hr tk rfl (a_cons e_int a_nil))) (g_name (pg_name (i := 15) sc_law.nd rfl (Or.inl rfl))))
    (s_one (s_if (q_not (q_val (e_call (ok__law_within Z) hr tk rfl (a_cons (e_var (pv 11)) (a_cons (e_var (pv 15)) (a_cons (e_var (pv 15)) a_nil)))))) (s_one (s_ret e_bl)) s_nil))))))
    (s_cons (s_asg (e_callTy c_tup rfl Z.b_tuple bt_tuple (a_cons (e_lc (x := "at") (i := 14) rfl sc_law.nd (i_any (e_tup (a_cons (e_var (pv 6)) (a_cons (e_bin o_div (e_var (pv 6)) e_int) (a_cons (e_bin o_div (e_var (pv 6)) e_int) a_nil))))) (blkOk_by (N := N_law) (sc := defScope s_law) (by decide +kernel)) (fun _ _ _ _ _ => pg_name (i := 14) sc_law.nd rfl (Or.inl rfl)) (fun _ _ _ _ _ => ts_nil) (fun _ _ _ _ _ => (e_tup (a_cons (e_call (ok__law_tidy Z) hr L2.takes0 rfl (a_cons (e_bin o_mod (e_var (pv 14)) e_int) (a_cons e_int a_nil))) (a_cons (e_call (ok__law_tidy Z) hr L2.takes0 rfl (a_cons (e_bin o_mod (e_var (pv 14)) e_int) (a_cons e_int a_nil))) a_nil))))) a_nil)) (g_name (pg_name (i := 16) sc_law.nd rfl (Or.inl rfl))))
    (s_cons (s_asg (e_tup (a_cons (e_bin o_mod (e_var (pv 6)) e_int) (a_cons (e_bin o_mod (e_bin o_div (e_var (pv 6)) e_int) e_int) (a_cons (e_bin o_mod (e_bin o_div (e_var (pv 6)) e_int) e_int) a_nil)))) (g_name (pg_name (i := 13) sc_law.nd rfl (Or.inl rfl))))
    (s_cons (s_asg (e_call (ok_bounds 12 Z) hr tk rfl (a_cons (e_var (pv 1)) (a_cons (e_var (pv 16)) a_nil))) (g_name (pg_name (i := 17) sc_law.nd rfl (Or.inl rfl))))
    (s_cons (s_asg (e_bin o_mul (e_call (ok__law_value 12 Z) hr tk rfl (a_cons (e_var (pv 1)) (a_cons (e_var (pv 13)) a_nil))) (e_call (ok__law_ten Z) hr tk rfl (a_cons e_int a_nil))) (g_name (pg_name (i := 15) sc_law.nd rfl (Or.inl rfl))))
    (s_one (s_ret (e_and (e_call (ok__law_within Z) hr tk rfl (a_cons (e_var (pv 17)) (a_cons (e_var (pv 15)) (a_cons (e_var (pv 15)) a_nil)))) (e_one (e_or (e_cmp o_gt (e_callB c_len rfl Z.b_len bt_len (a_cons (e_callB (c_repr rfl hu) rfl Z.b_repr bt_repr (a_cons (e_var (pv 1)) a_nil)) a_nil)) e_int (nomark _)) (e_one (e_cmp (o_eq hu) (e_ix (e_var (pv 17)) e_int) (e_ix (e_var (pv 17)) e_int) (nomark _))))))))))))))))))))))))))))
end
theorem x_cell {ns : List Int} {k : Int} (h : 0 ≤ k) : ∃ c, d__law_cell_at [.arr ns, .int k] = .ok (.int c) := by
  by_cases hk : k < ns.length
  · have hi : ∃ c, ixD (.arr ns) (.int k) = some (.int c) := by
      refine ⟨ns.getD k.toNat 0, ?_⟩
      show (atI ns k).map D.int = _
      unfold atI ixN
      rw [if_pos h, if_pos hk]
      show (ns[k.toNat]?).map D.int = _
      rw [List.getElem?_eq_getElem (by omega), List.getD_eq_getElem?_getD, List.getElem?_eq_getElem (by omega)]
      rfl
    obtain ⟨c, hc⟩ := hi
    exact ⟨c, by simp?! [v__law_cell_at, g__law_cell_at, t1__law_cell_at, hk, hc]⟩
  · exact ⟨0, by simp?! [v__law_cell_at, g__law_cell_at, t1__law_cell_at, hk]⟩
theorem x_mixed {ns : List Int} {k : Int} (h : 0 ≤ k) (h2 : k < 1000) : ∃ m, d__law_mixed [.arr ns, .int k] = .ok (.int m) ∧ 0 ≤ m ∧ m < 2147483629 := by
  obtain ⟨c, hc⟩ := x_cell (ns := ns) h
  simp?! [v__law_mixed, g__law_mixed, t1__law_mixed, hc]
  exact ⟨_, rfl, Int.emod_nonneg _ (by decide), Int.emod_lt_of_pos _ (by decide)⟩
theorem x_drawn {n k : Int} (h : 0 ≤ k) (h2 : k < 1000) : ∃ m, d__law_drawn [.int n, .int k] = .ok (.int m) ∧ 0 ≤ m ∧ m < 2147483629 := by
  simp?! [v__law_drawn, g__law_drawn, t1__law_drawn]
  exact ⟨_, rfl, Int.emod_nonneg _ (by decide), Int.emod_lt_of_pos _ (by decide)⟩
/-! the law's own numbers -/
theorem x_tidy0 {b : Int} : d__law_tidy [.int 0, .int b] = .ok (.tup [.int 0, .int 0]) := by
  simp?! [v__law_tidy, g__law_tidy, beq_self_eq_true]
/-- ten -/
theorem dv_zeros : ∀ (k a : Nat), (List.replicate k 48).foldl (fun acc c => acc * 10 + (c - 48)) a = a * 10 ^ k
  | 0, a => by simp
  | k + 1, a => by
    rw [List.replicate_succ, List.foldl_cons, dv_zeros k]
    show (a * 10 + 0) * 10 ^ k = a * 10 ^ (k + 1)
    rw [Nat.pow_succ, Nat.add_zero, Nat.mul_assoc, Nat.mul_comm 10]
theorem int_digits {x : Str} {n : Nat} (h : NumText.AllDigits x.cps.toList) (h1 : x.cps.toList ≠ []) (h2 : x.cps.toList.length ≤ 640) (e : NumText.digitsVal x.cps.toList = n) : intD [.str x] = some (.int n) := by
  show (if x.length ≤ 640 then (PySem.intText? x).map D.int else none) = _
  rw [if_pos (by rw [s_len]; exact h2), PySem.intText_digits h h1 (by rw [s_len]; omega), e]
  rfl
theorem x_ten {k : Int} (h : 0 ≤ k) (h2 : k ≤ 600) : d_ten [.int k] = .ok (.int (10 ^ k.toNat)) := by
  have z1 : (Str.ofString "0").length = 1 := by decide +kernel
  have l1 : (repS (Str.ofString "0") k).length = k.toNat := by rw [s_len, one_s 48 "0" zero_s, List.length_replicate]
  have o1 : (Str.ofString "1").cps.toList = [49] := by decide +kernel
  have e : (Str.ofString "1" ++ repS (Str.ofString "0") k).cps.toList = 49 :: List.replicate k.toNat 48 := by
    rw [app_tl, one_s 48 "0" zero_s, o1]; rfl
  have e1 : mulD (.str (Str.ofString "0")) (.int k) = some (.str (repS (Str.ofString "0") k)) := mul_si ⟨by omega, by omega, by rw [z1]; omega⟩
  have e2 : addD (.str (Str.ofString "1")) (.str (repS (Str.ofString "0") k)) = some (.str (Str.ofString "1" ++ repS (Str.ofString "0") k)) := add_ss (by
    rw [l1]
    have : (Str.ofString "1").length = 1 := by decide +kernel
    omega)
  have e3 : intD [.str (Str.ofString "1" ++ repS (Str.ofString "0") k)] = some (.int ((10 ^ k.toNat : Nat) : Int)) := by
    refine int_digits ?_ ?_ ?_ ?_
    · rw [e]
      intro c hc
      rcases List.mem_cons.mp hc with rfl | hc
      · omega
      · have := List.eq_of_mem_replicate hc
        omega
    · rw [e]; exact List.cons_ne_nil _ _
    · rw [e, List.length_cons, List.length_replicate]; omega
    · rw [e]
      unfold NumText.digitsVal
      rw [List.foldl_cons, dv_zeros]
      simp
  simp?! [v_ten, g_ten, e1, e2, e3]
  simp
/-! heights -/
theorem x_figures {a : Int} (h : a.natAbs < 10 ^ 500) : d_figures_of [.int a] = .ok (.int (figs a.natAbs)) := by
  obtain ⟨q1, q2⟩ := lenstr (i := (a.natAbs : Int)) (by omega) h
  have q2 : lenD [.str (Str.ofString (toString (a.natAbs : Int)))] = some (.int (figs a.natAbs)) := q2
  simp?! [v_figures_of, g_figures_of, abs_if a, q1, q2]
theorem x_height {a b : Int} (h : a.natAbs < 10 ^ 500) : d_height [.tup [.int a, .int b]] = .ok (.int (b + (figs a.natAbs : Int) - 1)) := by
  simp?! [v_height, g_height, x_figures h]
/-! _law_ten -/
theorem rng1_eq {f : Rho → Res (List D)} {ρ : Rho} {j : Int} (h : f ρ = .ok [.int j]) (h1 : 0 ≤ j) (h2 : j < 5000) : rng1 f ρ = .ok (rngD 0 j.toNat) := by
  unfold rng1
  rw [h]
  simp only [Res.bind]
  rw [if_pos ⟨by omega, by omega⟩]
theorem rngD_len {i : Int} {n : Nat} : (rngD i n).length = n := by unfold rngD; rw [List.length_map, List.length_range]
theorem lten_loop : ∀ (ds : List D) (a : Int) (b : D) (c : En), ∃ c', loopD (gn 2) b1__law_ten ds [.z b, .z (.int a), c] = .nx [.z b, .z (.int (a * 10 ^ ds.length)), c']
  | [], a, b, c => ⟨c, by rw [loop_nil]; simp⟩
  | d :: ds, a, b, c => by
    obtain ⟨c', h⟩ := lten_loop ds (a * 10) b (.z d)
    refine ⟨c', ?_⟩
    have hb : b1__law_ten [.z b, .z (.int a), .z d] = .nx [.z b, .z (.int (a * 10)), .z d] := by simp?! [b1__law_ten]
    rw [loop_cons (ρ1 := [.z b, .z (.int a), .z d]) rfl hb, h, List.length_cons, Int.pow_succ, Int.mul_assoc, Int.mul_comm 10]
theorem lten_t1 {n : Nat} {c : En} (hl : loopD (gn 2) b1__law_ten (rngD 0 n) [.z (.int (n : Int)), .z (.int 1), .u] = .nx [.z (.int (n : Int)), .z (.int (10 ^ n)), c]) (e : rng1 (acons (var 0) anil) [.z (.int (n : Int)), .z (.int 1), .u] = .ok (rngD 0 n)) :
    t1__law_ten [.z (.int (n : Int)), .z (.int 1), .u] = .rt (.int (10 ^ n)) := by
  unfold t1__law_ten
  rw [sseq_def, sfor_def, e, forR_ok, hl, seqR_nx]
  unfold t2__law_ten
  simp?! []
theorem lten_g {n : Int} : g__law_ten [.z (.int n), .u, .u] = t1__law_ten [.z (.int n), .z (.int 1), .u] := by
  unfold g__law_ten
  rw [sseq_def, sasg_def, con_def, asgR_n, seqR_nx, List.set_cons_succ, List.set_cons_zero]
theorem x_lten {n : Nat} (h : n ≤ 2000) : d__law_ten [.int (n : Int)] = .ok (.int (10 ^ n)) := by
  have q : acons (var 0) anil [.z (.int (n : Int)), .z (.int 1), .u] = .ok [.int (n : Int)] := by simp?! []
  have e := rng1_eq q (by omega) (by omega)
  rw [Int.toNat_natCast] at e
  obtain ⟨c', hl⟩ := lten_loop (rngD 0 n) 1 (.int (n : Int)) .u
  rw [rngD_len, Int.one_mul] at hl
  rw [v__law_ten, lten_g, lten_t1 hl e, finR_rt]
theorem x_ltenZ {k : Int} (h : 0 ≤ k) (h2 : k ≤ 2000) : d__law_ten [.int k] = .ok (.int (10 ^ k.toNat)) := by
  obtain ⟨n, rfl⟩ := Int.eq_ofNat_of_zero_le h
  rw [Int.toNat_natCast]
  exact x_lten (by omega)
/-! exact and what it calls -/
theorem x_tenN {n : Nat} (h : n ≤ 600) : d_ten [.int (n : Int)] = .ok (.int (10 ^ n)) := by
  rw [x_ten (by omega) (by omega), Int.toNat_natCast]
theorem x_ten8 : d_ten [.int 8] = .ok (.int (10 ^ 8)) := x_ten (by decide) (by decide)
theorem x_bysize (m : Mn) (b : Bool) : d_by_size [.str m.s, .bl b] = .ok (.str (m.by b).s) := by
  have e1 : ((Str.ofString "even") == (Str.ofString "up")) = false := by decide +kernel
  have e2 : ((Str.ofString "even") == (Str.ofString "down")) = false := by decide +kernel
  have e3 : ((Str.ofString "away") == (Str.ofString "up")) = false := by decide +kernel
  have e4 : ((Str.ofString "away") == (Str.ofString "down")) = false := by decide +kernel
  have e5 : ((Str.ofString "nought") == (Str.ofString "up")) = false := by decide +kernel
  have e6 : ((Str.ofString "nought") == (Str.ofString "down")) = false := by decide +kernel
  have e7 : ((Str.ofString "down") == (Str.ofString "up")) = false := by decide +kernel
  cases m <;> cases b <;> (simp?! [Mn.s, Mn.by, Hw.s, v_by_size, g_by_size, t1_by_size, t2_by_size, e1, e2, e3, e4, e5, e6, e7, beq_self_eq_true, if_true, if_false, Bool.false_eq_true]; done)
theorem x_taken (h : Hw) {q r l : Int} : d_taken [.int q, .int r, .int l, .str h.s] = .ok (.int (takenZ h q r l)) := by
  unfold takenZ
  by_cases r0 : r = 0
  · subst r0
    simp?! [v_taken, g_taken, beq_self_eq_true, if_true]
  · have er : (r == 0) = false := by simpa using r0
    rw [if_neg r0]
    have e1 : ((Str.ofString "more") == (Str.ofString "nought")) = false := by decide +kernel
    have e2 : ((Str.ofString "even") == (Str.ofString "nought")) = false := by decide +kernel
    have e3 : ((Str.ofString "away") == (Str.ofString "nought")) = false := by decide +kernel
    have e4 : ((Str.ofString "even") == (Str.ofString "more")) = false := by decide +kernel
    have e5 : ((Str.ofString "away") == (Str.ofString "more")) = false := by decide +kernel
    have e6 : ((Str.ofString "even") == (Str.ofString "away")) = false := by decide +kernel
    cases h with
    | nought => simp?! [Hw.s, v_taken, g_taken, er, beq_self_eq_true]
    | more => simp?! [Hw.s, v_taken, g_taken, t1_taken, er, e1, beq_self_eq_true]
    | even =>
      by_cases h2 : 2 * r = l
      · have e7 : (2 * r == l) = true := by simpa using h2
        by_cases h3 : q % 2 = 1
        · simp?! [Hw.s, v_taken, g_taken, t1_taken, t2_taken, er, e2, e4, e6, e7, h3, beq_self_eq_true]
          rw [if_pos h2]
        · have e8 : (q % 2 == 1) = false := by simpa using h3
          simp?! [Hw.s, v_taken, g_taken, t1_taken, t2_taken, er, e2, e4, e6, e7, e8]
          rw [if_pos h2, if_neg h3]; simp
      · have e7 : (2 * r == l) = false := by simpa using h2
        simp?! [Hw.s, v_taken, g_taken, t1_taken, t2_taken, t3_taken, er, e2, e4, e7]
        rw [if_neg h2]; simp
    | away =>
      by_cases h2 : 2 * r = l
      · have e7 : (2 * r == l) = true := by simpa using h2
        simp?! [Hw.s, v_taken, g_taken, t1_taken, t2_taken, er, e3, e5, e7, beq_self_eq_true]
        rw [if_pos h2]; simp
      · have e7 : (2 * r == l) = false := by simpa using h2
        simp?! [Hw.s, v_taken, g_taken, t1_taken, t2_taken, t3_taken, er, e3, e5, e7]
        rw [if_neg h2]; simp
/-- the loop of fitted -/
theorem x_fitloop : ∀ (n : Nat) (a b : Int), a ≠ 0 → a.natAbs < 10 ^ n → ∀ m x y z, n < m →
    whileD c1_fitted b2_fitted m [.z (.int a), .z (.int b), x, y, z] = .nx [.z (.int (strip n a b).1), .z (.int (strip n a b).2), x, y, z]
  | 0, a, b, h, h2, m, x, y, z, hm => by
    have : (10 : Nat) ^ 0 = 1 := rfl
    omega
  | n + 1, a, b, h, h2, m, x, y, z, hm => by
    obtain ⟨m, rfl⟩ : ∃ k, m = k + 1 := ⟨m - 1, by omega⟩
    unfold strip
    by_cases h0 : a % 10 = 0
    · have ih := x_fitloop n (a / 10) (b + 1) (by omega) (by
        have : (10 : Nat) ^ (n + 1) = 10 ^ n * 10 := by rw [Nat.pow_succ]
        omega) m x y z (by omega)
      have hc : c1_fitted [.z (.int a), .z (.int b), x, y, z] = .ok true := by simp?! [c1_fitted, h0, beq_self_eq_true]
      have hb : b2_fitted [.z (.int a), .z (.int b), x, y, z] = .nx [.z (.int (a / 10)), .z (.int (b + 1)), x, y, z] := by simp?! [b2_fitted]
      rw [while_t hc hb, ih, if_pos h0]
    · have e : (a % 10 == 0) = false := by simpa using h0
      have hc : c1_fitted [.z (.int a), .z (.int b), x, y, z] = .ok false := by simp?! [c1_fitted, e]
      rw [while_f hc, if_neg h0]
def optR : Option (Int × Int) → Res D
  | none => .ex "TooGreat"
  | some (a, b) => .ok (.tup [.int a, .int b])
theorem sg_eq (b : Bool) : (1 : Int) - 2 * (if b = true then 1 else 0) = sgZ b := rfl
theorem x_fitted (h : Hw) {w p : Int} {b : Bool} (h0 : 0 < w) (h1 : w.natAbs < 10 ^ 450) : d_fitted [.int w, .int p, .bl b, .str h.s] = optR (fitZ h w p b) := by
  have hl := x_fitloop 5000 w p (by omega) (Nat.lt_of_lt_of_le h1 (pow10_le (by decide))) 100000 (.z (.bl b)) (.z (.str h.s)) .u (by decide)
  obtain ⟨s1, s2, _, _⟩ := strip_pos 5000 w p h0
  have e0 : (w == 0) = false := by simpa using (show w ≠ 0 by omega)
  have hb : (strip 5000 w p).1.natAbs < 10 ^ 500 := Nat.lt_of_le_of_lt (by omega) (Nat.lt_of_lt_of_le h1 (pow10_le (by decide)))
  have hh := x_height (a := (strip 5000 w p).1) (b := (strip 5000 w p).2) hb
  have eh : (strip 5000 w p).2 + (figs (strip 5000 w p).1.natAbs : Int) - 1 = hgZ (strip 5000 w p) := rfl
  rw [eh] at hh
  unfold fitZ
  by_cases c1 : 40 < hgZ (strip 5000 w p)
  · rw [if_pos c1]
    simp?! [v_fitted, g_fitted, t1_fitted, t2_fitted, t3_fitted, e0, hl, hh, c1, sg_eq]
    rfl
  · rw [if_neg c1]
    have d1 : decide (40 < hgZ (strip 5000 w p)) = false := decide_eq_false c1
    by_cases c2 : hgZ (strip 5000 w p) < -40
    · rw [if_pos c2]
      have ek : (h.s == Str.ofString "more") = decide (h = .more) := by cases h <;> decide +kernel
      by_cases hm : h = .more
      · rw [decide_eq_true hm] at ek
        rw [if_pos hm]
        simp?! [v_fitted, g_fitted, t1_fitted, t2_fitted, t3_fitted, t4_fitted, e0, hl, hh, d1, c2, sg_eq, ek, optR]
      · rw [decide_eq_false hm] at ek
        rw [if_neg hm]
        simp?! [v_fitted, g_fitted, t1_fitted, t2_fitted, t3_fitted, t4_fitted, e0, hl, hh, d1, c2, sg_eq, ek, optR]
    · rw [if_neg c2]
      have d2 : decide (hgZ (strip 5000 w p) < -40) = false := decide_eq_false c2
      have m1 : mulD (.int (sgZ b)) (.int (strip 5000 w p).1) = some (.int (sgZ b * (strip 5000 w p).1)) := mul_l (by unfold sgZ; cases b <;> decide)
      simp?! [v_fitted, g_fitted, t1_fitted, t2_fitted, t3_fitted, t4_fitted, t5_fitted, e0, hl, hh, d1, d2, sg_eq, m1, optR]
theorem cast10 (a : Nat) : ((10 ^ a : Nat) : Int) = 10 ^ a := by
  rw [Int.natCast_pow]
  rfl
theorem c1_pf {U L : Nat} {p : Int} (bU : U < 10 ^ 200) (bL : L < 10 ^ 200) (h1 : -450 ≤ p) (h2 : p ≤ 450) :
    c1_power_for [.z (.int (U : Int)), .z (.int (L : Int)), .z (.int p)] = .ok (decide (L * 10 ^ p.toNat * 10 ^ 8 ≤ U * 10 ^ (-p).toNat)) := by
  have m1 := mul_t (u := (U : Int)) (n := (-p).toNat) (Nat.lt_of_lt_of_le bU (pow10_le (by decide))) (by omega)
  have m2 := mul_t (u := (L : Int)) (n := p.toNat) (Nat.lt_of_lt_of_le bL (pow10_le (by decide))) (by omega)
  have m3 := mul_t (u := (L : Int) * 10 ^ p.toNat) (n := 8) (Nat.lt_of_lt_of_le (natAbs_mul_pow (k := 200) bL) (pow10_le (by omega))) (by omega)
  have e : ((L : Int) * 10 ^ p.toNat * 10 ^ 8 ≤ (U : Int) * 10 ^ (-p).toNat) ↔ (L * 10 ^ p.toNat * 10 ^ 8 ≤ U * 10 ^ (-p).toNat) := by
    rw [← Int.ofNat_le, Int.natCast_mul, Int.natCast_mul, Int.natCast_mul, cast10, cast10, cast10]
  simp?! [c1_power_for, maxz, x_tenN, x_ten8, m1, m2, m3]
  rw [decide_eq_decide.mpr e]
theorem x_power {U L : Nat} (hU : 0 < U) (hL : 0 < L) (bU : U < 10 ^ 200) (bL : L < 10 ^ 200) : d_power_for [.int (U : Int), .int (L : Int)] = .ok (.int (pwN U L)) := by
  have f1 := figs_pos U
  have f2 := figs_le (by decide) bU
  have f3 := figs_pos L
  have f4 := figs_le (by decide) bL
  have e1 := x_figures (a := (U : Int)) (Nat.lt_of_lt_of_le bU (pow10_le (by decide)))
  have e2 := x_figures (a := (L : Int)) (Nat.lt_of_lt_of_le bL (pow10_le (by decide)))
  rw [Int.natAbs_natCast] at e1 e2
  have key : d_power_for [.int (U : Int), .int (L : Int)] = finR (t1_power_for [.z (.int (U : Int)), .z (.int (L : Int)), .z (.int (pw0 U L))]) := by
    simp?! [v_power_for, g_power_for, e1, e2]
    rfl
  rw [key]
  have b0 : -450 ≤ pw0 U L ∧ pw0 U L ≤ 440 := by unfold pw0; omega
  have c0 := c1_pf (p := pw0 U L) bU bL (by omega) (by omega)
  unfold pwN
  by_cases h : L * 10 ^ (pw0 U L).toNat * 10 ^ 8 ≤ U * 10 ^ (-(pw0 U L)).toNat
  · rw [decide_eq_true h] at c0
    have c1 := c1_pf (p := pw0 U L + 1) bU bL (by omega) (by omega)
    rw [decide_eq_false (Nat.not_le.mpr (pw_hi hL rfl))] at c1
    have hb : b2_power_for [.z (.int (U : Int)), .z (.int (L : Int)), .z (.int (pw0 U L))] = .nx [.z (.int (U : Int)), .z (.int (L : Int)), .z (.int (pw0 U L + 1))] := by simp?! [b2_power_for]
    have hw : whileD c1_power_for b2_power_for 100000 [.z (.int (U : Int)), .z (.int (L : Int)), .z (.int (pw0 U L))] = .nx [.z (.int (U : Int)), .z (.int (L : Int)), .z (.int (pw0 U L + 1))] := by
      rw [while_t (n := 99999) c0 hb, while_f (n := 99998) c1]
    rw [if_pos h]
    simp?! [t1_power_for, t2_power_for, hw]
  · rw [decide_eq_false h] at c0
    have hw : whileD c1_power_for b2_power_for 100000 [.z (.int (U : Int)), .z (.int (L : Int)), .z (.int (pw0 U L))] = .nx [.z (.int (U : Int)), .z (.int (L : Int)), .z (.int (pw0 U L))] := while_f (n := 99999) c0
    rw [if_neg h]
    simp?! [t1_power_for, t2_power_for, hw]
theorem finR_ret {r : Res D} {ρ : Rho} : finR (retR r ρ) = r := by cases r <;> rfl
theorem pw_bound {U L : Nat} (bU : U < 10 ^ 200) (bL : L < 10 ^ 200) : -250 ≤ pwN U L ∧ pwN U L ≤ 250 := by
  have f1 := figs_pos U
  have f2 := figs_le (by decide) bU
  have f3 := figs_pos L
  have f4 := figs_le (by decide) bL
  unfold pwN pw0
  split <;> omega
/-- the quotient and the rest that are rounded -/
theorem q_facts {U L : Nat} (hU : 0 < U) (hL : 0 < L) (bU : U < 10 ^ 200) : 0 < (U : Int) * 10 ^ (-(pwN U L)).toNat / ((L : Int) * 10 ^ (pwN U L).toNat) ∧ (U : Int) * 10 ^ (-(pwN U L)).toNat / ((L : Int) * 10 ^ (pwN U L).toNat) < 10 ^ 8 ∧ 0 < (L : Int) * 10 ^ (pwN U L).toNat ∧ 0 < (U : Int) * 10 ^ (-(pwN U L)).toNat := by
  obtain ⟨h1, h2⟩ := pw_low hU hL
  have l0 : 0 < L * 10 ^ (pwN U L).toNat := Nat.mul_pos hL (pow10_pos _)
  have u0 : 0 < U * 10 ^ (-(pwN U L)).toNat := Nat.mul_pos hU (pow10_pos _)
  have e1 : (U : Int) * 10 ^ (-(pwN U L)).toNat = ((U * 10 ^ (-(pwN U L)).toNat : Nat) : Int) := by rw [Int.natCast_mul, cast10]
  have e2 : (L : Int) * 10 ^ (pwN U L).toNat = ((L * 10 ^ (pwN U L).toNat : Nat) : Int) := by rw [Int.natCast_mul, cast10]
  rw [e1, e2]
  generalize U * 10 ^ (-(pwN U L)).toNat = x at *
  generalize L * 10 ^ (pwN U L).toNat = y at *
  have a1 : 0 < x / y := Nat.div_pos (by omega) l0
  have a2 : x / y < 10 ^ 8 := Nat.div_lt_of_lt_mul (by omega)
  rw [← Int.natCast_ediv]
  exact ⟨by omega, by omega, by omega, by omega⟩
theorem taken_bound (h : Hw) {q r l : Int} : q ≤ takenZ h q r l ∧ takenZ h q r l ≤ q + 1 := by
  unfold takenZ
  split
  · omega
  · cases h <;> (repeat' split) <;> omega
theorem x_exact (m : Mn) {u l : Int} (hl : l ≠ 0) (bu : u.natAbs < 10 ^ 200) (bl : l.natAbs < 10 ^ 200) : d_exact [.int u, .int l, .str m.s] = optR (exZ m u l) := by
  unfold exZ
  by_cases h0 : u = 0
  · subst h0
    rw [if_pos rfl]
    simp?! [v_exact, g_exact, beq_self_eq_true, optR]
  · rw [if_neg h0]
    have e0 : (u == 0) = false := by simpa using h0
    obtain ⟨p1, p2⟩ := pw_bound bu bl
    have hU : 0 < u.natAbs := by omega
    have hL : 0 < l.natAbs := by omega
    obtain ⟨f1, f2, f3, f4⟩ := q_facts hU hL bu
    have ep := x_power hU hL bu bl
    generalize hp : pwN u.natAbs l.natAbs = p at *
    have t1 := x_tenN (n := (-p).toNat) (by omega)
    have t2 := x_tenN (n := p.toNat) (by omega)
    have m1 := mul_t (u := (u.natAbs : Int)) (n := (-p).toNat) (Nat.lt_of_lt_of_le bu (pow10_le (by decide))) (by omega)
    have m2 := mul_t (u := (l.natAbs : Int)) (n := p.toNat) (Nat.lt_of_lt_of_le bl (pow10_le (by decide))) (by omega)
    have dv := div_z (i := (u.natAbs : Int) * 10 ^ (-p).toNat) f3 (Nat.lt_of_lt_of_le (natAbs_mul_pow (u := (l.natAbs : Int)) (k := 200) bl) (pow10_le (by omega)))
    have md := mod_p (i := (u.natAbs : Int) * 10 ^ (-p).toNat) f3
    have bs := x_bysize m (decide (u < 0) != decide (l < 0))
    have tb := taken_bound (m.by (decide (u < 0) != decide (l < 0))) (q := (u.natAbs : Int) * 10 ^ (-p).toNat / ((l.natAbs : Int) * 10 ^ p.toNat)) (r := (u.natAbs : Int) * 10 ^ (-p).toNat % ((l.natAbs : Int) * 10 ^ p.toNat)) (l := (l.natAbs : Int) * 10 ^ p.toNat)
    have p9 : (10 : Nat) ^ 9 ≤ 10 ^ 450 := pow10_le (by decide)
    have ft := x_fitted (m.by (decide (u < 0) != decide (l < 0))) (p := p) (b := decide (u < 0) != decide (l < 0)) (w := takenZ (m.by (decide (u < 0) != decide (l < 0))) ((u.natAbs : Int) * 10 ^ (-p).toNat / ((l.natAbs : Int) * 10 ^ p.toNat)) ((u.natAbs : Int) * 10 ^ (-p).toNat % ((l.natAbs : Int) * 10 ^ p.toNat)) ((l.natAbs : Int) * 10 ^ p.toNat)) (by omega) (by omega)
    have nb : ∀ a b : Bool, (!(a == b)) = (a != b) := fun a b => rfl
    have key : d_exact [.int u, .int l, .str m.s] = finR (t5_exact [.z (.int (u.natAbs : Int)), .z (.int (l.natAbs : Int)), .z (.str m.s), .z (.bl (decide (u < 0) != decide (l < 0))), .z (.int p), .u]) := by
      simp?! [v_exact, g_exact, t1_exact, t2_exact, t3_exact, t4_exact, e0, abs_if, ep, nb]
    rw [key]
    simp only
    generalize (decide (u < 0) != decide (l < 0)) = bb at *
    generalize m.by bb = hw at *
    generalize (u.natAbs : Int) * 10 ^ (-p).toNat = UU at *
    generalize (l.natAbs : Int) * 10 ^ p.toNat = LL at *
    simp?! [t5_exact, t6_exact, t7_exact, t8_exact, maxz, t1, t2, m1, m2, dv, md, bs, x_taken]
    rw [finR_ret]
    exact ft
/-! the law's exact -/
theorem x_tidyZ : ∀ (n : Nat) (a b : Int), a ≠ 0 → a.natAbs < 10 ^ n → ∀ m, n < m →
    whileD c1__law_tidy b2__law_tidy m [.z (.int a), .z (.int b)] = .nx [.z (.int (strip n a b).1), .z (.int (strip n a b).2)]
  | 0, a, b, h, h2, m, hm => by
    have : (10 : Nat) ^ 0 = 1 := rfl
    omega
  | n + 1, a, b, h, h2, m, hm => by
    obtain ⟨m, rfl⟩ : ∃ k, m = k + 1 := ⟨m - 1, by omega⟩
    unfold strip
    by_cases h0 : a % 10 = 0
    · have ih := x_tidyZ n (a / 10) (b + 1) (by omega) (by
        have : (10 : Nat) ^ (n + 1) = 10 ^ n * 10 := by rw [Nat.pow_succ]
        omega) m (by omega)
      have hc : c1__law_tidy [.z (.int a), .z (.int b)] = .ok true := by simp?! [c1__law_tidy, h0, beq_self_eq_true]
      have hb : b2__law_tidy [.z (.int a), .z (.int b)] = .nx [.z (.int (a / 10)), .z (.int (b + 1))] := by simp?! [b2__law_tidy]
      rw [while_t hc hb, ih, if_pos h0]
    · have e : (a % 10 == 0) = false := by simpa using h0
      have hc : c1__law_tidy [.z (.int a), .z (.int b)] = .ok false := by simp?! [c1__law_tidy, e]
      rw [while_f hc, if_neg h0]
theorem x_tidyS {a b : Int} (h0 : a ≠ 0) (h2 : a.natAbs < 10 ^ 450) : d__law_tidy [.int a, .int b] = .ok (.tup [.int (strip 5000 a b).1, .int (strip 5000 a b).2]) := by
  have e := x_tidyZ 5000 a b h0 (Nat.lt_of_lt_of_le h2 (pow10_le (by decide))) 100000 (by decide)
  have : (a == 0) = false := by simpa using h0
  simp?! [v__law_tidy, g__law_tidy, t1__law_tidy, t2__law_tidy, this, e]
/-! manners -/
/-! comparing, comprehensions -/
mutual
theorem eqd_refl : ∀ (n : Nat) (d : D), plain n d = true → eqd d d = true
  | _, .non, _ => rfl
  | _, .bl b, _ => by simp [eqd]
  | _, .int i, _ => by simp [eqd]
  | _, .str x, _ => by simp [eqd]
  | n, .lst xs, h => by
    cases n with
    | zero => cases h
    | succ n => exact eqds_refl n xs h
  | n, .tup xs, h => by
    cases n with
    | zero => cases h
    | succ n => exact eqds_refl n xs h
  | n, .fn _, h => by cases n <;> cases h
  | n, .ty _, h => by cases n <;> cases h
  | n, .dK _, h => by cases n <;> cases h
  | n, .dT _, h => by cases n <;> cases h
  | n, .arr _, h => by cases n <;> cases h
  | n, .pro _, h => by cases n <;> cases h
theorem eqds_refl : ∀ (n : Nat) (ds : List D), plains n ds = true → eqds ds ds = true
  | _, [], _ => rfl
  | n, d :: ds, h => by
    have h : (plain n d && plains n ds) = true := h
    rw [Bool.and_eq_true] at h
    show (eqd d d && eqds ds ds) = true
    rw [eqd_refl n d h.1, eqds_refl n ds h.2]
    rfl
end
theorem eq_same {d : D} (h : plain 64 d = true) : eqD d d = some (.bl true) := by
  unfold eqD eqOk
  rw [h, Bool.and_self, Bool.and_self, Bool.or_true, if_pos rfl, eqd_refl 64 d h]
theorem comp_t {g : Tg} {t : Rho → Res Bool} {e : Rho → Res D} {ρ ρ1 : Rho} {d y : D} {ds ys : List D} (h : g ρ d = some ρ1) (h2 : t ρ1 = .ok true) (h3 : e ρ1 = .ok y) (h4 : compD g t e ρ ds = .ok ys) : compD g t e ρ (d :: ds) = .ok (y :: ys) := by
  rw [compD, h]
  simp only
  rw [h2]
  simp only [if_true]
  rw [h3]
  simp only
  rw [h4]
  rfl
theorem lc_eq {f : Rho → Res (List D)} {i : Nat} {t : Rho → Res Bool} {e : Rho → Res D} {ρ : Rho} {ds ys : List D} (h : f ρ = .ok ds) (hl : ds.length ≤ 1000000) (h2 : compD (gn i) t e (ρ.set i .u) ds = .ok ys) : lcD f i t e ρ = .ok (.lst ys) := by
  unfold lcD
  rw [h]
  simp only [Res.bind]
  rw [if_pos (by rw [sizeLine_eq]; omega), h2]
theorem so_ref : PyData.strOk (Str.ofString "refused") = true := by decide +kernel
theorem pl_ref {k : Int} : DN.plain 64 (.tup [.str "refused", .int k]) = true := by
  show (PyData.strOk (Str.ofString "refused") && (true && true)) = true
  rw [so_ref]
  rfl
/-! plus, minus, times, over, less, and the law's deed -/
def NumB (a b : Int) : Prop := a.natAbs < 10 ^ 8 ∧ -48 ≤ b ∧ b ≤ 40
theorem num_b {a b : Int} (h : NumOk a b) : NumB a b := by
  rcases h with ⟨h1, h2⟩ | ⟨h0, _, h3, h4, h5⟩
  · subst h1; subst h2
    exact ⟨by decide, by decide, by decide⟩
  · have f1 := figs_pos a.natAbs
    have f2 := figs_le (by decide) h3
    exact ⟨h3, by omega, by omega⟩
/-- the lower power -/
def lowP (b1 b2 : Int) : Int := if b2 < b1 then b2 else b1
theorem low_f (b1 b2 : Int) : lowP b1 b2 ≤ b1 ∧ lowP b1 b2 ≤ b2 ∧ (lowP b1 b2 = b1 ∨ lowP b1 b2 = b2) := by unfold lowP; split <;> omega
theorem big_small {a : Int} {k : Nat} (h : a.natAbs < 10 ^ 8) (hk : k ≤ 92) : (a * 10 ^ k).natAbs < 10 ^ 100 := Nat.lt_of_lt_of_le (natAbs_mul_pow h) (pow10_le (by omega))
theorem mul_a {a : Int} {k : Nat} (h : a.natAbs < 10 ^ 8) (hk : k ≤ 92) : mulD (.int a) (.int (10 ^ k)) = some (.int (a * 10 ^ k)) := mul_t (Nat.lt_of_lt_of_le h (pow10_le (by decide))) (by omega)
theorem x_level {a1 b1 a2 b2 : Int} (n1 : NumB a1 b1) (n2 : NumB a2 b2) : d_level [.tup [.int a1, .int b1], .tup [.int a2, .int b2]] = .ok (.tup [.int (a1 * 10 ^ (b1 - lowP b1 b2).toNat), .int (a2 * 10 ^ (b2 - lowP b1 b2).toNat), .int (lowP b1 b2)]) := by
  obtain ⟨h1, h2, h3⟩ := n1
  obtain ⟨g1, g2, g3⟩ := n2
  obtain ⟨l1, l2, l3⟩ := low_f b1 b2
  have e : (if b2 < b1 then b2 else b1) = lowP b1 b2 := rfl
  have t1 := x_ten (k := b1 - lowP b1 b2) (by omega) (by omega)
  have t2 := x_ten (k := b2 - lowP b1 b2) (by omega) (by omega)
  have m1 := mul_a (k := (b1 - lowP b1 b2).toNat) h1 (by omega)
  have m2 := mul_a (k := (b2 - lowP b1 b2).toNat) g1 (by omega)
  simp?! [v_level, g_level, t1_level, e, t1, t2, m1, m2]
theorem x_ofpower (m : Mn) {w p : Int} (hw : w.natAbs < 10 ^ 101) (h1 : -98 ≤ p) (h2 : p ≤ 98) : d_of_power [.int w, .int p, .str m.s] = optR (exZ m (w * 10 ^ p.toNat) (10 ^ (-p).toNat)) := by
  have t1 := x_tenN (n := p.toNat) (by omega)
  have t2 := x_tenN (n := (-p).toNat) (by omega)
  have m1 := mul_t (u := w) (n := p.toNat) (Nat.lt_of_lt_of_le hw (pow10_le (by decide))) (by omega)
  have hp := pow_ge1 (-p).toNat
  have ex := x_exact m (u := w * 10 ^ p.toNat) (l := 10 ^ (-p).toNat) (by omega) (Nat.lt_of_lt_of_le (natAbs_mul_pow hw) (pow10_le (by omega))) (by rw [pow_z]; exact Nat.pow_lt_pow_right (by decide) (by omega))
  simp?! [v_of_power, g_of_power, maxz, t1, t2, m1, ex, finR_ret]
def plU (a1 b1 a2 b2 : Int) : Int := (a1 * 10 ^ (b1 - lowP b1 b2).toNat + a2 * 10 ^ (b2 - lowP b1 b2).toNat) * 10 ^ (lowP b1 b2).toNat
def plL (b1 b2 : Int) : Int := 10 ^ (-(lowP b1 b2)).toNat
theorem x_plus (m : Mn) {a1 b1 a2 b2 : Int} (n1 : NumB a1 b1) (n2 : NumB a2 b2) : d_plus [.tup [.int a1, .int b1], .tup [.int a2, .int b2], .str m.s] = optR (exZ m (plU a1 b1 a2 b2) (plL b1 b2)) := by
  have e := x_level n1 n2
  obtain ⟨h1, h2, h3⟩ := n1
  obtain ⟨g1, g2, g3⟩ := n2
  obtain ⟨l1, l2, l3⟩ := low_f b1 b2
  have s1 := big_small (k := (b1 - lowP b1 b2).toNat) h1 (by omega)
  have s2 := big_small (k := (b2 - lowP b1 b2).toNat) g1 (by omega)
  have p1 : (10 : Nat) ^ 101 = 10 ^ 100 * 10 := Nat.pow_succ _ _
  have o := x_ofpower m (w := a1 * 10 ^ (b1 - lowP b1 b2).toNat + a2 * 10 ^ (b2 - lowP b1 b2).toNat) (p := lowP b1 b2) (by omega) (by omega) (by omega)
  simp?! [v_plus, g_plus, t1_plus, e, o, finR_ret]
  rfl
theorem x_turned {a b : Int} : d_turned [.tup [.int a, .int b]] = .ok (.tup [.int (-a), .int b]) := by
  simp?! [v_turned, g_turned]
theorem x_minus (m : Mn) {a1 b1 a2 b2 : Int} (n1 : NumB a1 b1) (n2 : NumB a2 b2) : d_minus [.tup [.int a1, .int b1], .tup [.int a2, .int b2], .str m.s] = optR (exZ m (plU a1 b1 (-a2) b2) (plL b1 b2)) := by
  have p := x_plus m n1 (show NumB (-a2) b2 from ⟨by rw [Int.natAbs_neg]; exact n2.1, n2.2⟩)
  simp?! [v_minus, g_minus, x_turned, p, finR_ret]
/-! the law's -/
theorem told_def {f : Rho → Res D} {ρ : Rho} : toldD f ρ = toldR (f ρ) := rfl
/-! the deeds by value -/
theorem pl_val (a1 b1 a2 b2 : Int) : (plU a1 b1 a2 b2 : Rat) / (plL b1 b2 : Rat) = vl (a1, b1) + vl (a2, b2) := by
  obtain ⟨l1, l2, _⟩ := low_f b1 b2
  unfold plU plL
  rw [frac_val, Rat.intCast_add, Rat.add_mul, vl_at l1, vl_at l2]
theorem pl_ne (b1 b2 : Int) : plL b1 b2 ≠ 0 := by
  have := pow_ge1 (-(lowP b1 b2)).toNat
  unfold plL
  omega
theorem ti_val (a1 b1 a2 b2 : Int) : ((a1 * a2 * 10 ^ (b1 + b2).toNat : Int) : Rat) / ((10 ^ (-(b1 + b2)).toNat : Int) : Rat) = vl (a1, b1) * vl (a2, b2) := by
  rw [frac_val, Rat.intCast_mul, T_add]
  show _ = (a1 : Rat) * T b1 * ((a2 : Rat) * T b2)
  grind
theorem le_val (a1 b1 a2 b2 : Int) : a1 * 10 ^ (b1 - lowP b1 b2).toNat < a2 * 10 ^ (b2 - lowP b1 b2).toNat ↔ vl (a1, b1) < vl (a2, b2) := by
  obtain ⟨l1, l2, _⟩ := low_f b1 b2
  rw [vl_at l1, vl_at l2, Rat.mul_lt_mul_right (T_pos _), Rat.intCast_lt_intCast]
theorem pow_ne (n : Nat) : (10 : Int) ^ n ≠ 0 := by have := pow_ge1 n; omega
theorem y_plus (m : Mn) {a1 b1 a2 b2 : Int} (n1 : NumB a1 b1) (n2 : NumB a2 b2) : d_plus [.tup [.int a1, .int b1], .tup [.int a2, .int b2], .str m.s] = optR (exV m (vl (a1, b1) + vl (a2, b2))) := by
  rw [x_plus m n1 n2, ex_V m (pl_ne _ _), pl_val]
theorem y_minus (m : Mn) {a1 b1 a2 b2 : Int} (n1 : NumB a1 b1) (n2 : NumB a2 b2) : d_minus [.tup [.int a1, .int b1], .tup [.int a2, .int b2], .str m.s] = optR (exV m (vl (a1, b1) - vl (a2, b2))) := by
  have e : vl (-a2, b2) = -vl (a2, b2) := vl_neg (a2, b2)
  rw [x_minus m n1 n2, ex_V m (pl_ne _ _), pl_val, e, ← Rat.sub_eq_add_neg]
theorem NumB.neg {a b : Int} (h : NumB a b) : NumB (-a) b := ⟨by rw [Int.natAbs_neg]; exact h.1, h.2⟩
/-! ranges -/
theorem consR_e1 {n : Str} {r : Res (List D)} : consR (.ex n) r = .ex n := rfl
theorem consR_e2 {a : D} {n : Str} : consR (.ok a) (.ex n) = .ex n := rfl
theorem mkTR_e {n : Str} : mkTR (.ex n) = .ex n := rfl
abbrev numD (s : Int × Int) : D := .tup [.int s.1, .int s.2]
abbrev rgD (s t : Int × Int) : D := .tup [numD s, numD t]
def optRR : Option (Int × Int) → Option (Int × Int) → Res D
  | some s, some t => .ok (rgD s t)
  | _, _ => .ex "TooGreat"
theorem optR_none : optR none = .ex "TooGreat" := rfl
theorem optR_some {s : Int × Int} : optR (some s) = .ok (numD s) := rfl
/-- wider numbers: products -/
def NumW (a b : Int) : Prop := a.natAbs < 10 ^ 17 ∧ -96 ≤ b ∧ b ≤ 80
theorem num_w {a1 b1 a2 b2 : Int} (n1 : NumB a1 b1) (n2 : NumB a2 b2) : NumW (a1 * a2) (b1 + b2) := by
  obtain ⟨h1, h2, h3⟩ := n1
  obtain ⟨g1, g2, g3⟩ := n2
  refine ⟨?_, by omega, by omega⟩
  rw [Int.natAbs_mul]
  have q1 : a1.natAbs * a2.natAbs ≤ 10 ^ 8 * 10 ^ 8 := Nat.mul_le_mul (Nat.le_of_lt h1) (Nat.le_of_lt g1)
  omega
theorem y_lessW {a1 b1 a2 b2 : Int} (n1 : NumW a1 b1) (n2 : NumW a2 b2) : d_less [.tup [.int a1, .int b1], .tup [.int a2, .int b2]] = .ok (.bl (decide (vl (a1, b1) < vl (a2, b2)))) := by
  obtain ⟨h1, h2, h3⟩ := n1
  obtain ⟨g1, g2, g3⟩ := n2
  obtain ⟨l1, l2, l3⟩ := low_f b1 b2
  have e : (if b2 < b1 then b2 else b1) = lowP b1 b2 := rfl
  have t1 := x_ten (k := b1 - lowP b1 b2) (by omega) (by omega)
  have t2 := x_ten (k := b2 - lowP b1 b2) (by omega) (by omega)
  have m1 := mul_t (u := a1) (n := (b1 - lowP b1 b2).toNat) (Nat.lt_of_lt_of_le h1 (pow10_le (by decide))) (by omega)
  have m2 := mul_t (u := a2) (n := (b2 - lowP b1 b2).toNat) (Nat.lt_of_lt_of_le g1 (pow10_le (by decide))) (by omega)
  have lv : d_level [.tup [.int a1, .int b1], .tup [.int a2, .int b2]] = .ok (.tup [.int (a1 * 10 ^ (b1 - lowP b1 b2).toNat), .int (a2 * 10 ^ (b2 - lowP b1 b2).toNat), .int (lowP b1 b2)]) := by
    simp?! [v_level, g_level, t1_level, e, t1, t2, m1, m2]
  have key : d_less [.tup [.int a1, .int b1], .tup [.int a2, .int b2]] = .ok (.bl (decide (a1 * 10 ^ (b1 - lowP b1 b2).toNat < a2 * 10 ^ (b2 - lowP b1 b2).toNat))) := by
    simp?! [v_less, g_less, t1_less, lv]
  rw [key]
  congr 2
  exact decide_eq_decide.mpr (le_val a1 b1 a2 b2)
theorem vl_mul (a1 b1 a2 b2 : Int) : vl (a1 * a2, b1 + b2) = vl (a1, b1) * vl (a2, b2) := by
  show ((a1 * a2 : Int) : Rat) * T (b1 + b2) = (a1 : Rat) * T b1 * ((a2 : Rat) * T b2)
  rw [Rat.intCast_mul, T_add]
  grind
theorem mul_8 {a b : Int} (h : a.natAbs < 10 ^ 8) : mulD (.int a) (.int b) = some (.int (a * b)) := mul_l (by omega)
/-- a pair and its product -/
def IsPair (d : D) (v : Rat) : Prop := ∃ s t : Int × Int, d = rgD s t ∧ NumB s.1 s.2 ∧ NumB t.1 t.2 ∧ v = vl s * vl t
theorem x_isless {d e : D} {v w : Rat} (hd : IsPair d v) (he : IsPair e w) : d_is_less_product [d, e] = .ok (.bl (decide (v < w))) := by
  obtain ⟨⟨a1, b1⟩, ⟨a2, b2⟩, rfl, n1, n2, rfl⟩ := hd
  obtain ⟨⟨a3, b3⟩, ⟨a4, b4⟩, rfl, n3, n4, rfl⟩ := he
  have l := y_lessW (num_w n1 n2) (num_w n3 n4)
  rw [vl_mul, vl_mul] at l
  simp?! [v_is_less_product, g_is_less_product, mul_8 n1.1, mul_8 n3.1, l]
theorem x_product (m : Mn) {d : D} {v : Rat} (hd : IsPair d v) : d_product [d, .str m.s] = optR (exV m v) := by
  obtain ⟨⟨a1, b1⟩, ⟨a2, b2⟩, rfl, n1, n2, rfl⟩ := hd
  have w := num_w n1 n2
  have o := x_ofpower m (w := a1 * a2) (p := b1 + b2) (Nat.lt_of_lt_of_le w.1 (pow10_le (by decide))) (by have := w.2; omega) (by have := w.2; omega)
  rw [ex_V m (pow_ne _), ti_val] at o
  simp?! [v_product, g_product, mul_8 n1.1, o, finR_ret]
theorem down_s : Str.ofString "down" = Mn.down.s := rfl
theorem up_s : Str.ofString "up" = Mn.up.s := rfl
theorem x_plusof {s1 t1 s2 t2 : Int × Int} (n1 : NumB s1.1 s1.2) (n2 : NumB t1.1 t1.2) (n3 : NumB s2.1 s2.2) (n4 : NumB t2.1 t2.2) : d_plus_of [rgD s1 t1, rgD s2 t2] = optRR (exV .down (vl s1 + vl s2)) (exV .up (vl t1 + vl t2)) := by
  obtain ⟨a1, b1⟩ := s1
  obtain ⟨a2, b2⟩ := t1
  obtain ⟨a3, b3⟩ := s2
  obtain ⟨a4, b4⟩ := t2
  have e1 := y_plus .down n1 n3
  have e2 := y_plus .up n2 n4
  simp only at e1 e2
  rw [← down_s] at e1
  rw [← up_s] at e2
  cases q1 : exV .down (vl (a1, b1) + vl (a3, b3)) with
  | none =>
    rw [q1, optR_none] at e1
    simp?! [v_plus_of, g_plus_of, e1, consR_e1, mkTR_e, retR_ex, finR_ex]
    rfl
  | some p1 =>
    rw [q1, optR_some] at e1
    cases q2 : exV .up (vl (a2, b2) + vl (a4, b4)) with
    | none =>
      rw [q2, optR_none] at e2
      simp?! [v_plus_of, g_plus_of, e1, e2, consR_e1, consR_e2, mkTR_e, retR_ex, finR_ex]
      rfl
    | some p2 =>
      rw [q2, optR_some] at e2
      simp?! [v_plus_of, g_plus_of, e1, e2]
      rfl
theorem x_minusof {s1 t1 s2 t2 : Int × Int} (n1 : NumB s1.1 s1.2) (n2 : NumB t1.1 t1.2) (n3 : NumB s2.1 s2.2) (n4 : NumB t2.1 t2.2) : d_minus_of [rgD s1 t1, rgD s2 t2] = optRR (exV .down (vl s1 - vl t2)) (exV .up (vl t1 - vl s2)) := by
  obtain ⟨a1, b1⟩ := s1
  obtain ⟨a2, b2⟩ := t1
  obtain ⟨a3, b3⟩ := s2
  obtain ⟨a4, b4⟩ := t2
  have e1 := y_minus .down n1 n4
  have e2 := y_minus .up n2 n3
  simp only at e1 e2
  rw [← down_s] at e1
  rw [← up_s] at e2
  cases q1 : exV .down (vl (a1, b1) - vl (a4, b4)) with
  | none =>
    rw [q1, optR_none] at e1
    simp?! [v_minus_of, g_minus_of, e1, consR_e1, mkTR_e, retR_ex, finR_ex]
    rfl
  | some p1 =>
    rw [q1, optR_some] at e1
    cases q2 : exV .up (vl (a2, b2) - vl (a3, b3)) with
    | none =>
      rw [q2, optR_none] at e2
      simp?! [v_minus_of, g_minus_of, e1, e2, consR_e1, consR_e2, mkTR_e, retR_ex, finR_ex]
      rfl
    | some p2 =>
      rw [q2, optR_some] at e2
      simp?! [v_minus_of, g_minus_of, e1, e2]
      rfl
def mnR (a b : Rat) : Rat := if b < a then b else a
def mxR (a b : Rat) : Rat := if a < b then b else a
theorem tm_step {r1 r2 lo hi p : D} {vlo vhi v : Rat} (h1 : IsPair lo vlo) (h2 : IsPair hi vhi) (h3 : IsPair p v) :
    ∃ lo' hi', IsPair lo' (mnR vlo v) ∧ IsPair hi' (mxR vhi v) ∧ b1_times_of [.z r1, .z r2, .z lo, .z hi, .z p] = .nx [.z r1, .z r2, .z lo', .z hi', .z p] := by
  have a := x_isless h3 h1
  have b := x_isless h2 h3
  unfold mnR mxR
  by_cases c1 : v < vlo
  · rw [decide_eq_true c1] at a
    by_cases c2 : vhi < v
    · rw [decide_eq_true c2] at b
      exact ⟨p, p, by rw [if_pos c1]; exact h3, by rw [if_pos c2]; exact h3, by simp?! [b1_times_of, a, b]⟩
    · rw [decide_eq_false c2] at b
      exact ⟨p, hi, by rw [if_pos c1]; exact h3, by rw [if_neg c2]; exact h2, by simp?! [b1_times_of, a, b]⟩
  · rw [decide_eq_false c1] at a
    by_cases c2 : vhi < v
    · rw [decide_eq_true c2] at b
      exact ⟨lo, p, by rw [if_neg c1]; exact h1, by rw [if_pos c2]; exact h3, by simp?! [b1_times_of, a, b]⟩
    · rw [decide_eq_false c2] at b
      exact ⟨lo, hi, by rw [if_neg c1]; exact h1, by rw [if_neg c2]; exact h2, by simp?! [b1_times_of, a, b]⟩
def mn4 (a b c d : Rat) : Rat := mnR (mnR (mnR a b) c) d
def mx4 (a b c d : Rat) : Rat := mxR (mxR (mxR a b) c) d
theorem x_timesof {s1 t1 s2 t2 : Int × Int} (n1 : NumB s1.1 s1.2) (n2 : NumB t1.1 t1.2) (n3 : NumB s2.1 s2.2) (n4 : NumB t2.1 t2.2) :
    d_times_of [rgD s1 t1, rgD s2 t2] = optRR (exV .down (mn4 (vl s1 * vl s2) (vl s1 * vl t2) (vl t1 * vl s2) (vl t1 * vl t2))) (exV .up (mx4 (vl s1 * vl s2) (vl s1 * vl t2) (vl t1 * vl s2) (vl t1 * vl t2))) := by
  have p1 : IsPair (rgD s1 s2) (vl s1 * vl s2) := ⟨s1, s2, rfl, n1, n3, rfl⟩
  have p2 : IsPair (rgD s1 t2) (vl s1 * vl t2) := ⟨s1, t2, rfl, n1, n4, rfl⟩
  have p3 : IsPair (rgD t1 s2) (vl t1 * vl s2) := ⟨t1, s2, rfl, n2, n3, rfl⟩
  have p4 : IsPair (rgD t1 t2) (vl t1 * vl t2) := ⟨t1, t2, rfl, n2, n4, rfl⟩
  obtain ⟨l2, h2, q1, q2, e2⟩ := tm_step (r1 := rgD s1 t1) (r2 := rgD s2 t2) p1 p1 p2
  obtain ⟨l3, h3, q3, q4, e3⟩ := tm_step (r1 := rgD s1 t1) (r2 := rgD s2 t2) q1 q2 p3
  obtain ⟨l4, h4, q5, q6, e4⟩ := tm_step (r1 := rgD s1 t1) (r2 := rgD s2 t2) q3 q4 p4
  have r1 := x_product .down q5
  have r2 := x_product .up q6
  rw [← down_s] at r1
  rw [← up_s] at r2
  have key : d_times_of [rgD s1 t1, rgD s2 t2] = finR (t3_times_of [.z (rgD s1 t1), .z (rgD s2 t2), .z l4, .z h4, .z (rgD t1 t2)]) := by
    have it : its (mkT (acons (mkT (acons (bop ixD (var 0) (con (.int 0))) (acons (bop ixD (var 1) (con (.int 1))) anil))) (acons (mkT (acons (bop ixD (var 0) (con (.int 1))) (acons (bop ixD (var 1) (con (.int 0))) anil))) (acons (mkT (acons (bop ixD (var 0) (con (.int 1))) (acons (bop ixD (var 1) (con (.int 1))) anil))) anil)))) [.z (rgD s1 t1), .z (rgD s2 t2), .z (rgD s1 s2), .z (rgD s1 s2), .u] = .ok [rgD s1 t2, rgD t1 s2, rgD t1 t2] := by
      unfold its
      simp?! []
      rfl
    have lp : loopD (gn 4) b1_times_of [rgD s1 t2, rgD t1 s2, rgD t1 t2] [.z (rgD s1 t1), .z (rgD s2 t2), .z (rgD s1 s2), .z (rgD s1 s2), .u] = .nx [.z (rgD s1 t1), .z (rgD s2 t2), .z l4, .z h4, .z (rgD t1 t2)] := by
      rw [loop_cons (ρ1 := [.z (rgD s1 t1), .z (rgD s2 t2), .z (rgD s1 s2), .z (rgD s1 s2), .z (rgD s1 t2)]) rfl e2]
      rw [loop_cons (ρ1 := [.z (rgD s1 t1), .z (rgD s2 t2), .z l2, .z h2, .z (rgD t1 s2)]) rfl e3]
      rw [loop_cons (ρ1 := [.z (rgD s1 t1), .z (rgD s2 t2), .z l3, .z h3, .z (rgD t1 t2)]) rfl e4, loop_nil]
    simp?! [v_times_of, g_times_of, t1_times_of, t2_times_of, it, lp]
  rw [key]
  unfold mn4 mx4
  generalize mnR (mnR (mnR _ _) _) _ = x1 at *
  generalize mxR (mxR (mxR _ _) _) _ = x2 at *
  cases c1 : exV .down x1 with
  | none =>
    rw [c1, optR_none] at r1
    simp?! [t3_times_of, r1, consR_e1, mkTR_e, retR_ex, finR_ex]
    rfl
  | some z1 =>
    rw [c1, optR_some] at r1
    cases c2 : exV .up x2 with
    | none =>
      rw [c2, optR_none] at r2
      simp?! [t3_times_of, r1, r2, consR_e1, consR_e2, mkTR_e, retR_ex, finR_ex]
      rfl
    | some z2 =>
      rw [c2, optR_some] at r2
      simp?! [t3_times_of, r1, r2]
      rfl
/-! drawn ranges -/
/-! intervals -/
theorem mn_le (a b : Rat) : mnR a b ≤ a ∧ mnR a b ≤ b ∧ (mnR a b = a ∨ mnR a b = b) := by unfold mnR; split <;> grind
theorem mx_ge (a b : Rat) : a ≤ mxR a b ∧ b ≤ mxR a b ∧ (mxR a b = a ∨ mxR a b = b) := by unfold mxR; split <;> grind
theorem mn4_le (a b c d : Rat) : mn4 a b c d ≤ a ∧ mn4 a b c d ≤ b ∧ mn4 a b c d ≤ c ∧ mn4 a b c d ≤ d ∧ (mn4 a b c d = a ∨ mn4 a b c d = b ∨ mn4 a b c d = c ∨ mn4 a b c d = d) := by
  have h1 := mn_le a b
  have h2 := mn_le (mnR a b) c
  have h3 := mn_le (mnR (mnR a b) c) d
  unfold mn4
  grind
theorem mx4_ge (a b c d : Rat) : a ≤ mx4 a b c d ∧ b ≤ mx4 a b c d ∧ c ≤ mx4 a b c d ∧ d ≤ mx4 a b c d ∧ (mx4 a b c d = a ∨ mx4 a b c d = b ∨ mx4 a b c d = c ∨ mx4 a b c d = d) := by
  have h1 := mx_ge a b
  have h2 := mx_ge (mxR a b) c
  have h3 := mx_ge (mxR (mxR a b) c) d
  unfold mx4
  grind
theorem mul_lo {l h x y : Rat} (h1 : l ≤ x) (h2 : x ≤ h) : l * y ≤ x * y ∨ h * y ≤ x * y := by
  by_cases c : 0 ≤ y
  · exact .inl (Rat.mul_le_mul_of_nonneg_right h1 c)
  · have := Rat.mul_le_mul_of_nonneg_right h2 (show 0 ≤ -y by grind)
    exact .inr (by grind)
theorem mul_hi {l h x y : Rat} (h1 : l ≤ x) (h2 : x ≤ h) : x * y ≤ l * y ∨ x * y ≤ h * y := by
  by_cases c : 0 ≤ y
  · exact .inr (Rat.mul_le_mul_of_nonneg_right h2 c)
  · have := Rat.mul_le_mul_of_nonneg_right h1 (show 0 ≤ -y by grind)
    exact .inl (by grind)
theorem mul_in {l1 h1 l2 h2 x y : Rat} (a1 : l1 ≤ x) (a2 : x ≤ h1) (b1 : l2 ≤ y) (b2 : y ≤ h2) :
    mn4 (l1 * l2) (l1 * h2) (h1 * l2) (h1 * h2) ≤ x * y ∧ x * y ≤ mx4 (l1 * l2) (l1 * h2) (h1 * l2) (h1 * h2) := by
  have m := mn4_le (l1 * l2) (l1 * h2) (h1 * l2) (h1 * h2)
  have n := mx4_ge (l1 * l2) (l1 * h2) (h1 * l2) (h1 * h2)
  have c1 := mul_lo (y := y) a1 a2
  have c2 := mul_hi (y := y) a1 a2
  have d1 := mul_lo (y := l1) b1 b2
  have d2 := mul_lo (y := h1) b1 b2
  have d3 := mul_hi (y := l1) b1 b2
  have d4 := mul_hi (y := h1) b1 b2
  constructor <;> grind
/-! entries -/
def tidyZ (a b : Int) : Int × Int := if a = 0 then (0, 0) else strip 5000 a b
theorem tidy_vl (a b : Int) : vl (tidyZ a b) = vl (a, b) := by
  unfold tidyZ
  split
  · rename_i h; subst h; rw [vl_zero, vl_zero]
  · exact vl_strip 5000 a b
theorem tidy_ok {a b : Int} (ha : a.natAbs < 10 ^ 8) (h1 : -30 ≤ b) (h2 : b ≤ 30) : NumOk (tidyZ a b).1 (tidyZ a b).2 := by
  have core : ∀ a : Int, 0 < a → a.natAbs < 10 ^ 8 → NumOk (strip 5000 a b).1 (strip 5000 a b).2 := by
    intro a h0 ha
    obtain ⟨t1, t2⟩ := hg_T (b := b) h0
    have f1 := figs_pos a.natAbs
    have f2 := figs_le (k := 8) (by decide) ha
    have hh : hgZ (a, b) = b + (figs a.natAbs : Int) - 1 := rfl
    refine strip_ok h0 (by omega) ?_ ?_
    · have := T_mono (show hgZ (a, b) + 1 ≤ 41 by omega)
      grind
    · have := T_mono (show (-40 : Int) ≤ hgZ (a, b) by omega)
      grind
  unfold tidyZ
  split
  · exact zero_ok
  · rename_i h
    by_cases h0 : 0 < a
    · exact core a h0 ha
    · have e : a = -(-a) := by omega
      rw [e, strip_neg]
      exact (core (-a) (by omega) (by rw [Int.natAbs_neg]; exact ha)).neg
structure Ent where
  neg : Bool
  ah : List Nat
  pt : Bool
  be : List Nat
def Ent.L (e : Ent) : List Nat := (if e.neg = true then [45] else []) ++ e.ah ++ (if e.pt = true then 46 :: e.be else [])
def Ent.val (e : Ent) : Int := if e.neg = true then -((digitsVal (e.ah ++ e.be) : Nat) : Int) else ((digitsVal (e.ah ++ e.be) : Nat) : Int)
def Ent.num (e : Ent) : Int × Int := tidyZ e.val (-(e.be.length : Int))
/-! the law's own ranges -/
/-! the sides of a product -/
abbrev Pr := (Int × Int) × (Int × Int)
abbrev pD (p : Pr) : D := rgD p.1 p.2
theorem its_T' {f : Rho → Res D} {ds : List D} {ρ : Rho} (h : f ρ = .ok (.tup ds)) : its f ρ = .ok ds := by
  unfold its; rw [h]; rfl
/-! formulas -/
inductive Tw where | plus | minus | times
  deriving DecidableEq
def Tw.s : Tw → Str
  | .plus => "plus" | .minus => "minus" | .times => "times"
inductive Fm where | name (k : Nat) | num (n : Nat) | sign (f : Fm) | two (w : Tw) (f g : Fm)
def Fm.D : Fm → DN.D
  | .name k => .tup [.str "name", .int k]
  | .num n => .tup [.str "number", .int n]
  | .sign f => .tup [.str "sign", f.D]
  | .two w f g => .tup [.str w.s, f.D, g.D]
def Fm.dp : Fm → Nat
  | .name _ => 1
  | .num _ => 1
  | .sign f => f.dp + 1
  | .two _ f g => max f.dp g.dp + 1
def Fm.Ok : Fm → Prop
  | .name k => k < 3
  | .num n => n < 10
  | .sign f => f.Ok
  | .two _ f g => f.Ok ∧ g.Ok
theorem Fm.dp_pos (f : Fm) : 1 ≤ f.dp := by cases f <;> simp [Fm.dp]
theorem x_lformula : ∀ (fuel : Nat) (n deep : Int), 0 ≤ n → 1 ≤ deep → deep ≤ fuel → ∃ f : Fm, d__law_formula fuel [.int n, .int deep] = .ok f.D ∧ f.Ok ∧ (f.dp : Int) ≤ deep
  | 0, n, deep, h0, h1, h2 => by omega
  | fuel + 1, n, deep, h0, h1, h2 => by
    have leaf : ∃ f : Fm, bop ixD (mkL (acons (mkT (acons (con (.str "name")) (acons (bop modD (bop divD (var 0) (con (.int 7))) (con (.int 3))) anil))) (acons (mkT (acons (con (.str "number")) (acons (bop modD (bop divD (var 0) (con (.int 7))) (con (.int 10))) anil))) anil))) (bop modD (bop divD (var 0) (con (.int 64))) (con (.int 2))) [.z (.int n), .z (.int deep), .u, .u] = .ok f.D ∧ f.Ok ∧ f.dp = 1 := by
      have k1 : ∃ k : Nat, n / 7 % 3 = (k : Int) ∧ k < 3 := ⟨(n / 7 % 3).toNat, by omega, by omega⟩
      have k2 : ∃ k : Nat, n / 7 % 10 = (k : Int) ∧ k < 10 := ⟨(n / 7 % 10).toNat, by omega, by omega⟩
      obtain ⟨a, ha, ha2⟩ := k1
      obtain ⟨b, hb, hb2⟩ := k2
      by_cases q : n / 64 % 2 = 0
      · exact ⟨.name a, by simp?! [ha, hb, q]; rfl, ha2, rfl⟩
      · have q : n / 64 % 2 = 1 := by omega
        exact ⟨.num b, by simp?! [ha, hb, q]; rfl, hb2, rfl⟩
    obtain ⟨lf, l1, l2, l3⟩ := leaf
    by_cases c1 : deep = 1
    · have e1 : (deep == 1) = true := by simpa using c1
      refine ⟨lf, ?_, l2, by omega⟩
      rw [v__law_formula]
      unfold g__law_formula
      rw [sseq_def, sif_def]
      have c : orQ (tst (bop eqD (var 1) (con (.int 1)))) (tst (bop eqD (bop modD (var 0) (con (.int 7))) (con (.int 0)))) [.z (.int n), .z (.int deep), .u, .u] = .ok true := by simp?! [e1]
      rw [c, ifR_t, sret_def, l1, retR_ok, seqR_rt, finR_rt]
    · have e1 : (deep == 1) = false := by simpa using c1
      by_cases c2 : n % 7 = 0
      · have e2 : (n % 7 == 0) = true := by simpa using c2
        refine ⟨lf, ?_, l2, by omega⟩
        rw [v__law_formula]
        unfold g__law_formula
        rw [sseq_def, sif_def]
        have c : orQ (tst (bop eqD (var 1) (con (.int 1)))) (tst (bop eqD (bop modD (var 0) (con (.int 7))) (con (.int 0)))) [.z (.int n), .z (.int deep), .u, .u] = .ok true := by simp?! [e1, e2]
        rw [c, ifR_t, sret_def, l1, retR_ok, seqR_rt, finR_rt]
      · have e2 : (n % 7 == 0) = false := by simpa using c2
        obtain ⟨d1, p1, p2, _⟩ := x_drawn (n := n) (k := 1) (by omega) (by omega)
        obtain ⟨d2, q1, q2, _⟩ := x_drawn (n := n) (k := 2) (by omega) (by omega)
        obtain ⟨f, f1, f2, f3⟩ := x_lformula fuel (d1 / 4) (deep - 1) (by omega) (by omega) (by omega)
        have key : d__law_formula (fuel + 1) [.int n, .int deep] = finR (t2__law_formula (d__law_formula fuel) [.z (.int n), .z (.int deep), .z f.D, .u]) := by
          simp?! [v__law_formula, g__law_formula, t1__law_formula, e1, e2, p1, f1]
        rw [key]
        by_cases c3 : n % 7 = 1
        · have e3 : (n % 7 == 1) = true := by simpa using c3
          refine ⟨.sign f, ?_, f2, by simp only [Fm.dp]; omega⟩
          simp?! [t2__law_formula, e3]
          rfl
        · have e3 : (n % 7 == 1) = false := by simpa using c3
          have m1 : mulD (.int (n / 16 % 2)) (.int (if decide (2 < deep) = true then 1 else 0)) = some (.int (n / 16 % 2 * (if decide (2 < deep) = true then 1 else 0))) := mul_l (by omega)
          obtain ⟨dd, hdd, hd1, hd2⟩ : ∃ dd : Int, deep - 1 - n / 16 % 2 * (if decide (2 < deep) = true then 1 else 0) = dd ∧ 1 ≤ dd ∧ dd ≤ deep - 1 := by
            by_cases q : 2 < deep
            · refine ⟨_, rfl, ?_, ?_⟩
              · rw [decide_eq_true q, if_pos rfl]; omega
              · rw [decide_eq_true q, if_pos rfl]; omega
            · refine ⟨_, rfl, ?_, ?_⟩
              · rw [decide_eq_false q, if_neg (by decide)]; omega
              · rw [decide_eq_false q, if_neg (by decide)]; omega
          obtain ⟨g, g1, g2, g3⟩ := x_lformula fuel (d2 / 4) dd (by omega) (by omega) (by omega)
          have key2 : finR (t2__law_formula (d__law_formula fuel) [.z (.int n), .z (.int deep), .z f.D, .u]) = finR (t4__law_formula (d__law_formula fuel) [.z (.int n), .z (.int deep), .z f.D, .z g.D]) := by
            simp?! [t2__law_formula, t3__law_formula, e3, q1, m1, hdd, g1]
          rw [key2]
          have hw : ∃ w : Tw, finR (t4__law_formula (d__law_formula fuel) [.z (.int n), .z (.int deep), .z f.D, .z g.D]) = .ok (.tup [.str w.s, f.D, g.D]) := by
            have k : n / 8 % 3 = 0 ∨ n / 8 % 3 = 1 ∨ n / 8 % 3 = 2 := by omega
            rcases k with k | k | k
            · exact ⟨.plus, by simp?! [t4__law_formula, k]; rfl⟩
            · exact ⟨.minus, by simp?! [t4__law_formula, k]; rfl⟩
            · exact ⟨.times, by simp?! [t4__law_formula, k]; rfl⟩
          obtain ⟨w, hw⟩ := hw
          exact ⟨.two w f g, hw, ⟨f2, g2⟩, by simp only [Fm.dp]; omega⟩
/-! things -/
mutual
def tg (L : Nat) : Nat → DN.D → Bool
  | _, .non => true
  | _, .bl _ => true
  | _, .int _ => true
  | _, .str x => PyData.strOk x
  | n + 1, .lst xs => decide (xs.length ≤ L) && tgs L n xs
  | n + 1, .tup xs => decide (xs.length ≤ L) && tgs L n xs
  | _, _ => false
def tgs (L : Nat) : Nat → List DN.D → Bool
  | _, [] => true
  | n, x :: xs => tg L n x && tgs L n xs
end
/-! plain data, deeper -/
/-! is_formula -/
theorem sl_1 {x : D} {r : List D} : slD (.tup (x :: r)) (some 1) none = some (.tup r) := by
  show some (D.tup (DN.cutD (x :: r) (some 1) none)) = _
  unfold DN.cutD
  rw [HT.sIx_none, show HT.sIx (x :: r).length 0 (some 1) = min 1 (x :: r).length from HT.sIx_nat _ _ 1]
  rw [Nat.min_eq_left (by simp)]
  congr 2
  exact List.take_of_length_le (by simp)
theorem its_tup {f : Rho → Res D} {ds : List D} {ρ : Rho} (h : f ρ = .ok (.tup ds)) : its f ρ = .ok ds := by
  unfold its
  rw [h]
  rfl
/-! the law's is -/
/-! values -/
def Tw.op : Tw → Int → Int → Int
  | .plus, a, b => a + b | .minus, a, b => a - b | .times, a, b => a * b
def Fm.val (bx : List Int) : Fm → Int
  | .name k => bx.getD k 0
  | .num n => n
  | .sign f => -f.val bx
  | .two w f g => w.op (f.val bx) (g.val bx)
/-- a bound of the boxes, in bits -/
theorem val_bd {bx : List Int} {e : Nat} (he : 4 ≤ e) (hb : ∀ i ∈ bx, i.natAbs < 2 ^ e) : ∀ (f : Fm), f.Ok → (f.val bx).natAbs < 2 ^ (e * 2 ^ f.dp)
  | .name k, h => by
    show (bx.getD k 0).natAbs < 2 ^ (e * 2 ^ 1)
    have h1 : (bx.getD k 0).natAbs < 2 ^ e := by
      rw [List.getD_eq_getElem?_getD]
      cases q : bx[k]? with
      | none => exact Nat.two_pow_pos e
      | some i => exact hb i (List.mem_of_getElem? q)
    exact Nat.lt_of_lt_of_le h1 (Nat.pow_le_pow_right (by decide) (by omega))
  | .num n, h => by
    show ((n : Int)).natAbs < 2 ^ (e * 2 ^ 1)
    have h : n < 10 := h
    have : (2 : Nat) ^ 4 ≤ 2 ^ (e * 2 ^ 1) := Nat.pow_le_pow_right (by decide) (by omega)
    omega
  | .sign f, h => by
    have := val_bd he hb f h
    show (-f.val bx).natAbs < 2 ^ (e * 2 ^ (f.dp + 1))
    rw [Int.natAbs_neg]
    exact Nat.lt_of_lt_of_le this (Nat.pow_le_pow_right (by decide) (Nat.mul_le_mul_left _ (Nat.pow_le_pow_right (by decide) (by omega))))
  | .two w f g, h => by
    have h1 := val_bd he hb f h.1
    have h2 := val_bd he hb g h.2
    have m1 : 2 ^ (e * 2 ^ f.dp) ≤ 2 ^ (e * 2 ^ max f.dp g.dp) := Nat.pow_le_pow_right (by decide) (Nat.mul_le_mul_left _ (Nat.pow_le_pow_right (by decide) (by omega)))
    have m2 : 2 ^ (e * 2 ^ g.dp) ≤ 2 ^ (e * 2 ^ max f.dp g.dp) := Nat.pow_le_pow_right (by decide) (Nat.mul_le_mul_left _ (Nat.pow_le_pow_right (by decide) (by omega)))
    show (w.op (f.val bx) (g.val bx)).natAbs < 2 ^ (e * 2 ^ (max f.dp g.dp + 1))
    have e3 : e * 2 ^ (max f.dp g.dp + 1) = e * 2 ^ max f.dp g.dp + e * 2 ^ max f.dp g.dp := by rw [Nat.pow_succ, ← Nat.mul_assoc]; omega
    rw [e3, Nat.pow_add]
    generalize 2 ^ (e * 2 ^ max f.dp g.dp) = B at *
    have b2 : 2 ≤ B := by
      have : 0 ≤ (f.val bx).natAbs := Nat.zero_le _
      have p : 1 ≤ e * 2 ^ f.dp := Nat.mul_pos (by omega) (Nat.two_pow_pos _)
      have : (2 : Nat) ^ 1 ≤ 2 ^ (e * 2 ^ f.dp) := Nat.pow_le_pow_right (by decide) p
      omega
    have hh : B + B ≤ B * B := by
      have := Nat.mul_le_mul_right B b2
      omega
    cases w with
    | plus => show (f.val bx + g.val bx).natAbs < B * B; omega
    | minus => show (f.val bx - g.val bx).natAbs < B * B; omega
    | times =>
      show (f.val bx * g.val bx).natAbs < B * B
      rw [Int.natAbs_mul]
      exact Nat.mul_lt_mul'' (by omega) (by omega)
theorem val_big {bx : List Int} (hb : ∀ i ∈ bx, i.natAbs < 2 ^ 24) {f : Fm} (hf : f.Ok) (hd : f.dp ≤ 11) : (f.val bx).natAbs < 2 ^ 100000 := by
  have := val_bd (by decide) hb f hf
  refine Nat.lt_of_lt_of_le this (Nat.pow_le_pow_right (by decide) ?_)
  have : 2 ^ f.dp ≤ 2 ^ 11 := Nat.pow_le_pow_right (by decide) hd
  omega
theorem ix_box {bx : List Int} {k : Nat} (h : k < 3) (hl : bx.length = 3) : ixD (.tup (bx.map D.int)) (.int (k : Int)) = some (.int (bx.getD k 0)) := by
  rw [ix_t (by rw [List.length_map, hl]; omega), Int.toNat_natCast, List.getD_eq_getElem?_getD, List.getElem?_map, List.getD_eq_getElem?_getD, List.getElem?_eq_getElem (by omega)]
  rfl
theorem tw_ne (w : Tw) : (w.s == Str.ofString "name") = false ∧ (w.s == Str.ofString "number") = false ∧ (w.s == Str.ofString "sign") = false := by cases w <;> decide +kernel
theorem comp_2 {i : Nat} {e : Rho → Res D} {ρ : Rho} {x y a b : D} (h1 : e (ρ.set i (.z x)) = .ok a) (h2 : e (ρ.set i (.z y)) = .ok b) : compD (gn i) yes e ρ [x, y] = .ok [a, b] :=
  comp_t (show gn i ρ x = some (ρ.set i (.z x)) from rfl) rfl h1 (comp_t (show gn i ρ y = some (ρ.set i (.z y)) from rfl) rfl h2 rfl)
theorem comp_1 {i : Nat} {e : Rho → Res D} {ρ : Rho} {x a : D} (h1 : e (ρ.set i (.z x)) = .ok a) : compD (gn i) yes e ρ [x] = .ok [a] :=
  comp_t (show gn i ρ x = some (ρ.set i (.z x)) from rfl) rfl h1 rfl
def Tw.pick {α : Type} : Tw → α → α → α → α
  | .plus, a, _, _ => a | .minus, _, b, _ => b | .times, _, _, c => c
theorem dix_tw {a b c : D} {f : Rho → Res (List D)} {fe : Rho → Res D} {ρ : Rho} (w : Tw) (h1 : f ρ = .ok [a, b, c]) (h2 : fe ρ = .ok (.str w.s)) : dixD ["plus", "minus", "times"] f fe ρ = .ok (w.pick a b c) := by
  unfold dixD
  rw [h1, h2]
  cases w <;> rfl
theorem x_lvalue {bx : List Int} (hl : bx.length = 3) (hb : ∀ i ∈ bx, i.natAbs < 2 ^ 24) : ∀ (f : Fm) (fuel : Nat), f.Ok → f.dp ≤ 11 → f.dp ≤ fuel → d__law_value fuel [f.D, .tup (bx.map D.int)] = .ok (.int (f.val bx))
  | f, 0, _, _, hf => by have := f.dp_pos; omega
  | .name k, fuel + 1, h, _, _ => by
    have ix := ix_box h hl
    show d__law_value (fuel + 1) [.tup [.str "name", .int k], .tup (bx.map D.int)] = _
    simp?! [v__law_value, g__law_value, beq_self_eq_true, ix]
    rfl
  | .num n, fuel + 1, h, _, _ => by
    have n1 : (Str.ofString "number" == Str.ofString "name") = false := by decide +kernel
    show d__law_value (fuel + 1) [.tup [.str "number", .int n], .tup (bx.map D.int)] = _
    simp?! [v__law_value, g__law_value, t1__law_value, n1, beq_self_eq_true]
    rfl
  | .sign f, fuel + 1, h, hd, hf => by
    have ih := x_lvalue hl hb f fuel h (by simp only [Fm.dp] at hd; omega) (by simp only [Fm.dp] at hf; omega)
    have n1 : (Str.ofString "sign" == Str.ofString "name") = false := by decide +kernel
    have n2 : (Str.ofString "sign" == Str.ofString "number") = false := by decide +kernel
    show d__law_value (fuel + 1) [.tup [.str "sign", f.D], .tup (bx.map D.int)] = _
    have it := its_tup (f := slc (var 0) (psm (con (.int 1))) pno) (ds := [f.D]) (ρ := [.z (.tup [.str "sign", f.D]), .z (.tup (bx.map D.int)), .u, .u]) (by simp?! [sl_1])
    have lc := lc_eq (i := 3) (t := yes) (e := e1__law_value (d__law_value fuel)) it (by simp) (comp_1 (a := .int (f.val bx)) (by
      show e1__law_value (d__law_value fuel) [.z (.tup [.str "sign", f.D]), .z (.tup (bx.map D.int)), .u, .z f.D] = _
      simp?! [e1__law_value, ih]))
    simp?! [v__law_value, g__law_value, t1__law_value, t2__law_value, t3__law_value, n1, n2, beq_self_eq_true, lc]
    rfl
  | .two w f g, fuel + 1, h, hd, hf => by
    have i1 := x_lvalue hl hb f fuel h.1 (by simp only [Fm.dp] at hd; omega) (by simp only [Fm.dp] at hf; omega)
    have i2 := x_lvalue hl hb g fuel h.2 (by simp only [Fm.dp] at hd; omega) (by simp only [Fm.dp] at hf; omega)
    obtain ⟨n1, n2, n3⟩ := tw_ne w
    have mu : mulD (.int (f.val bx)) (.int (g.val bx)) = some (.int (f.val bx * g.val bx)) := mul_w (val_big hb h.1 (by simp only [Fm.dp] at hd; omega)) (val_big hb h.2 (by simp only [Fm.dp] at hd; omega))
    show d__law_value (fuel + 1) [.tup [.str w.s, f.D, g.D], .tup (bx.map D.int)] = .ok (.int (w.op (f.val bx) (g.val bx)))
    have it := its_tup (f := slc (var 0) (psm (con (.int 1))) pno) (ds := [f.D, g.D]) (ρ := [.z (.tup [.str w.s, f.D, g.D]), .z (.tup (bx.map D.int)), .u, .u]) (by simp?! [sl_1])
    have lc := lc_eq (i := 3) (t := yes) (e := e1__law_value (d__law_value fuel)) it (by simp) (comp_2 (a := .int (f.val bx)) (b := .int (g.val bx)) (by
      show e1__law_value (d__law_value fuel) [.z (.tup [.str w.s, f.D, g.D]), .z (.tup (bx.map D.int)), .u, .z f.D] = _
      simp?! [e1__law_value, i1]) (by
      show e1__law_value (d__law_value fuel) [.z (.tup [.str w.s, f.D, g.D]), .z (.tup (bx.map D.int)), .u, .z g.D] = _
      simp?! [e1__law_value, i2]))
    have key : d__law_value (fuel + 1) [.tup [.str w.s, f.D, g.D], .tup (bx.map D.int)] = finR (t4__law_value (d__law_value fuel) [.z (.tup [.str w.s, f.D, g.D]), .z (.tup (bx.map D.int)), .z (.lst [.int (f.val bx), .int (g.val bx)]), .u]) := by
      simp?! [v__law_value, g__law_value, t1__law_value, t2__law_value, t3__law_value, n1, n2, n3, lc]
    rw [key]
    unfold t4__law_value
    rw [sret_def, dix_tw (a := .int (f.val bx + g.val bx)) (b := .int (f.val bx - g.val bx)) (c := .int (f.val bx * g.val bx)) w (by simp?! [mu]) (by simp?! []), retR_ok, finR_rt]
    cases w <;> rfl
/-! bounds of formulas -/
def optB : Option Pr → Res D
  | none => .ex "TooGreat"
  | some p => .ok (pD p)
def pairO : Option (Int × Int) → Option (Int × Int) → Option Pr
  | some s, some t => some (s, t)
  | _, _ => none
theorem optRR_eq (x y : Option (Int × Int)) : optRR x y = optB (pairO x y) := by cases x <;> cases y <;> rfl
def Tw.rg (w : Tw) (p q : Pr) : Option Pr := match w with
  | .plus => pairO (exV .down (vl p.1 + vl q.1)) (exV .up (vl p.2 + vl q.2))
  | .minus => pairO (exV .down (vl p.1 - vl q.2)) (exV .up (vl p.2 - vl q.1))
  | .times => pairO (exV .down (mn4 (vl p.1 * vl q.1) (vl p.1 * vl q.2) (vl p.2 * vl q.1) (vl p.2 * vl q.2))) (exV .up (mx4 (vl p.1 * vl q.1) (vl p.1 * vl q.2) (vl p.2 * vl q.1) (vl p.2 * vl q.2)))
def tnP (p : Pr) : Pr := ((-p.2.1, p.2.2), (-p.1.1, p.1.2))
def Fm.bd (rs : List Pr) : Fm → Option Pr
  | .name k => rs[k]?
  | .num n => some (((n : Int), 0), ((n : Int), 0))
  | .sign f => (f.bd rs).map tnP
  | .two w f g => (f.bd rs).bind fun p => (g.bd rs).bind fun q => w.rg p q
def PrB (p : Pr) : Prop := NumB p.1.1 p.1.2 ∧ NumB p.2.1 p.2.2
theorem pairO_b {m1 m2 : Mn} {u v : Rat} {p : Pr} (h : pairO (exV m1 u) (exV m2 v) = some p) : PrB p := by
  cases e1 : exV m1 u with
  | none => rw [e1] at h; cases h
  | some s =>
    cases e2 : exV m2 v with
    | none => rw [e1, e2] at h; cases h
    | some t =>
      rw [e1, e2] at h
      cases h
      exact ⟨num_b (exV_some e1).1, num_b (exV_some e2).1⟩
theorem rg_b {w : Tw} {p q r : Pr} (h : w.rg p q = some r) : PrB r := by
  cases w <;> exact pairO_b h
theorem numB_small {n : Nat} (h : n < 10) : NumB (n : Int) 0 := ⟨by
  have : (10 : Nat) ^ 1 ≤ 10 ^ 8 := by decide
  omega, by omega, by omega⟩
theorem bd_b {rs : List Pr} (hr : ∀ p ∈ rs, PrB p) : ∀ (f : Fm), f.Ok → ∀ p, f.bd rs = some p → PrB p
  | .name k, _, p, e => hr p (List.mem_of_getElem? e)
  | .num n, h, p, e => by
    cases e
    exact ⟨numB_small h, numB_small h⟩
  | .sign f, h, p, e => by
    have e : (f.bd rs).map tnP = some p := e
    cases q : f.bd rs with
    | none => rw [q] at e; cases e
    | some z =>
      rw [q] at e
      cases e
      have := bd_b hr f h z q
      exact ⟨this.2.neg, this.1.neg⟩
  | .two w f g, h, p, e => by
    have e : (f.bd rs).bind (fun p => (g.bd rs).bind fun q => w.rg p q) = some p := e
    cases q : f.bd rs with
    | none => rw [q] at e; cases e
    | some z =>
      rw [q] at e
      have e : (g.bd rs).bind (fun q => w.rg z q) = some p := e
      cases q2 : g.bd rs with
      | none => rw [q2] at e; cases e
      | some z2 =>
        rw [q2] at e
        exact rg_b (w := w) (p := z) (q := z2) e
theorem ix_rs {rs : List Pr} {k : Nat} (h : k < 3) (hl : rs.length = 3) : ∃ p, rs[k]? = some p ∧ ixD (.tup (rs.map pD)) (.int (k : Int)) = some (pD p) := by
  refine ⟨rs[k]'(by omega), List.getElem?_eq_getElem (by omega), ?_⟩
  rw [ix_t (by rw [List.length_map, hl]; omega), Int.toNat_natCast, List.getD_eq_getElem?_getD, List.getElem?_map, List.getElem?_eq_getElem (by omega)]
  rfl
theorem call2_ex {den : List D → Res D} {a b : D} {n : Str} (h : den [a, b] = .ex n) : callR 2 den (.ok [a, b]) = .ex n := by
  show (if 2 = 2 then den [a, b] else .bad) = _
  rw [if_pos rfl, h]
theorem callF_ex {i : Nat} {disp : Str → Option (List D → Res D)} {f : Rho → Res (List D)} {ρ : Rho} {n m : Str} {g : List D → Res D} (h : ρ[i]? = some (.z (.fn n))) (hd : disp n = some g) (hf : f ρ = .ex m) : callF i disp f ρ = .ex m := by
  unfold callF
  rw [h]
  show (match disp n with | some g => (f ρ).bind g | none => .bad) = _
  rw [hd, hf]; rfl
theorem callF_ok {i : Nat} {disp : Str → Option (List D → Res D)} {f : Rho → Res (List D)} {ρ : Rho} {n : Str} {g : List D → Res D} {ds : List D} (h : ρ[i]? = some (.z (.fn n))) (hd : disp n = some g) (hf : f ρ = .ok ds) : callF i disp f ρ = g ds := by
  unfold callF
  rw [h]
  show (match disp n with | some g => (f ρ).bind g | none => .bad) = _
  rw [hd, hf]; rfl
def Tw.fnS : Tw → Str
  | .plus => "plus_of" | .minus => "minus_of" | .times => "times_of"
abbrev dispB : Str → Option (List D → Res D) := fun n => (if n = "plus_of" then some (fun ds => if ds.length = 2 then d_plus_of ds else .bad) else (if n = "minus_of" then some (fun ds => if ds.length = 2 then d_minus_of ds else .bad) else (if n = "times_of" then some (fun ds => if ds.length = 2 then d_times_of ds else .bad) else none)))
theorem x_of (w : Tw) {p q : Pr} (h1 : PrB p) (h2 : PrB q) : ∃ g, dispB w.fnS = some g ∧ g [pD p, pD q] = optB (w.rg p q) := by
  cases w with
  | plus => exact ⟨_, rfl, by
      show d_plus_of _ = _
      rw [x_plusof h1.1 h1.2 h2.1 h2.2, optRR_eq]; rfl⟩
  | minus => exact ⟨_, by simp [dispB, Tw.fnS]; rfl, by
      show d_minus_of _ = _
      rw [x_minusof h1.1 h1.2 h2.1 h2.2, optRR_eq]; rfl⟩
  | times => exact ⟨_, by simp [dispB, Tw.fnS]; rfl, by
      show d_times_of _ = _
      rw [x_timesof h1.1 h1.2 h2.1 h2.2, optRR_eq]; rfl⟩
theorem x_bounds {rs : List Pr} (hl : rs.length = 3) (hr : ∀ p ∈ rs, PrB p) : ∀ (f : Fm) (fuel : Nat), f.Ok → f.dp ≤ fuel → d_bounds fuel [f.D, .tup (rs.map pD)] = optB (f.bd rs)
  | f, 0, _, hf => by have := f.dp_pos; omega
  | .name k, fuel + 1, h, _ => by
    obtain ⟨p, e1, e2⟩ := ix_rs h hl
    show d_bounds (fuel + 1) [.tup [.str "name", .int k], .tup (rs.map pD)] = optB rs[k]?
    rw [e1]
    simp?! [v_bounds, g_bounds, beq_self_eq_true, e2]
    rfl
  | .num n, fuel + 1, h, _ => by
    have n1 : (Str.ofString "number" == Str.ofString "name") = false := by decide +kernel
    show d_bounds (fuel + 1) [.tup [.str "number", .int n], .tup (rs.map pD)] = _
    simp?! [v_bounds, g_bounds, t1_bounds, n1, beq_self_eq_true]
    rfl
  | .sign f, fuel + 1, h, hf => by
    have ih := x_bounds hl hr f fuel h (by simp only [Fm.dp] at hf; omega)
    have n1 : (Str.ofString "sign" == Str.ofString "name") = false := by decide +kernel
    have n2 : (Str.ofString "sign" == Str.ofString "number") = false := by decide +kernel
    show d_bounds (fuel + 1) [.tup [.str "sign", f.D], .tup (rs.map pD)] = optB ((f.bd rs).map tnP)
    cases q : f.bd rs with
    | none =>
      rw [q] at ih
      have c := call2_ex ih
      simp?! [v_bounds, g_bounds, t1_bounds, t2_bounds, n1, n2, ih]
      rfl
    | some p =>
      rw [q] at ih
      have ih : d_bounds fuel [f.D, .tup (rs.map pD)] = .ok (pD p) := ih
      simp?! [v_bounds, g_bounds, t1_bounds, t2_bounds, t3_bounds, n1, n2, beq_self_eq_true, ih, x_turned]
      rfl
  | .two w f g, fuel + 1, h, hf => by
    have i1 := x_bounds hl hr f fuel h.1 (by simp only [Fm.dp] at hf; omega)
    have i2 := x_bounds hl hr g fuel h.2 (by simp only [Fm.dp] at hf; omega)
    obtain ⟨n1, n2, n3⟩ := tw_ne w
    show d_bounds (fuel + 1) [.tup [.str w.s, f.D, g.D], .tup (rs.map pD)] = optB ((f.bd rs).bind fun p => (g.bd rs).bind fun q => w.rg p q)
    cases q : f.bd rs with
    | none =>
      rw [q] at i1
      have i1 : d_bounds fuel [f.D, .tup (rs.map pD)] = .ex "TooGreat" := i1
      simp?! [v_bounds, g_bounds, t1_bounds, t2_bounds, n1, n2, i1]
      rfl
    | some p =>
      rw [q] at i1
      have i1 : d_bounds fuel [f.D, .tup (rs.map pD)] = .ok (pD p) := i1
      have tf : tabF [("plus", "plus_of"), ("minus", "minus_of"), ("times", "times_of")] (bop ixD (var 0) (con (.int 0))) [.z (.tup [.str w.s, f.D, g.D]), .z (.tup (rs.map pD)), .z (pD p), .u] = .ok (.fn w.fnS) := by
        unfold tabF
        have : bop ixD (var 0) (con (.int 0)) [.z (.tup [.str w.s, f.D, g.D]), .z (.tup (rs.map pD)), .z (pD p), .u] = .ok (.str w.s) := by simp?! []
        rw [this]
        cases w <;> kernel_rfl
      have key : d_bounds (fuel + 1) [.tup [.str w.s, f.D, g.D], .tup (rs.map pD)] = finR (t5_bounds (d_bounds fuel) [.z (.tup [.str w.s, f.D, g.D]), .z (.tup (rs.map pD)), .z (pD p), .z (.fn w.fnS)]) := by
        simp?! [v_bounds, g_bounds, t1_bounds, t2_bounds, t3_bounds, t4_bounds, n1, n2, n3, i1, tf]
      rw [key]
      unfold t5_bounds
      rw [sret_def]
      have pb := bd_b hr f h.1 p q
      cases q2 : g.bd rs with
      | none =>
        rw [q2] at i2
        have i2 : d_bounds fuel [g.D, .tup (rs.map pD)] = .ex "TooGreat" := i2
        obtain ⟨gg, hg, _⟩ := x_of w pb pb
        have ar : acons (var 2) (acons (callD 2 (d_bounds fuel) (acons (bop ixD (var 0) (con (.int 2))) (acons (var 1) anil))) anil) [.z (.tup [.str w.s, f.D, g.D]), .z (.tup (rs.map pD)), .z (pD p), .z (.fn w.fnS)] = .ex "TooGreat" := by
          simp?! [i2, consR_e1, consR_e2]
        rw [callF_ex (n := w.fnS) rfl hg ar]
        rfl
      | some p2 =>
        rw [q2] at i2
        have i2 : d_bounds fuel [g.D, .tup (rs.map pD)] = .ok (pD p2) := i2
        obtain ⟨gg, hg, hv⟩ := x_of w pb (bd_b hr g h.2 p2 q2)
        have ar : acons (var 2) (acons (callD 2 (d_bounds fuel) (acons (bop ixD (var 0) (con (.int 2))) (acons (var 1) anil))) anil) [.z (.tup [.str w.s, f.D, g.D]), .z (.tup (rs.map pD)), .z (pD p), .z (.fn w.fnS)] = .ok [pD p, pD p2] := by
          simp?! [i2]
        rw [callF_ok (n := w.fnS) rfl hg ar, hv]
        show finR (retR (optB (w.rg p p2)) _) = optB (w.rg p p2)
        cases w.rg p p2 <;> rfl
/-! levels and points -/
def lvZ (s : Int × Int) : Int := s.1 * 10 ^ (s.2 + 50).toNat
def pt (L : Int) : Rat := (L : Rat) * T (-50)
theorem pt_lv {s : Int × Int} (h : -50 ≤ s.2) : pt (lvZ s) = vl s := by
  unfold pt lvZ vl
  rw [Rat.intCast_mul, ← T_nat, Rat.mul_assoc, ← T_add]
  congr 2
  omega
theorem pt_le {L M : Int} : L ≤ M ↔ pt L ≤ pt M := by
  unfold pt
  constructor
  · intro h
    exact Rat.mul_le_mul_of_nonneg_right (Rat.intCast_le_intCast.mpr h) (Rat.le_of_lt (T_pos _))
  · intro h
    exact Rat.intCast_le_intCast.mp (Rat.le_of_mul_le_mul_right h (T_pos _))
theorem x_lvl {s : Int × Int} (n : NumB s.1 s.2) : d__law_level [numD s] = .ok (.int (lvZ s)) := by
  obtain ⟨a, b⟩ := s
  obtain ⟨h1, h2, h3⟩ := n
  simp only at h1 h2 h3
  have t := x_ltenZ (k := b + 50) (by omega) (by omega)
  have m := mul_a (a := a) (k := (b + 50).toNat) h1 (by omega)
  simp?! [v__law_level, g__law_level, t, m]
  rfl
/-! told at both ends, told between -/
theorem rw_nm {v : Rat} (hv : 0 < v) : rwR .nought v ≤ rwR .more v := by
  have := rw_nought hv
  have := rw_more hv
  grind
theorem rd1_nm {v r : Rat} (hv : 0 < v) (e : rd1 .more v = some r) : ∃ r', rd1 .nought v = some r' := by
  have := rw_nm hv
  unfold rd1 at e ⊢
  split at e
  · cases e
  · rw [if_neg (by grind)]
    split
    · exact ⟨_, rfl⟩
    · exact ⟨_, rfl⟩
/-- told at both ends, told between -/
theorem rd_wide {a v b ra rb : Rat} (h1 : a ≤ v) (h2 : v ≤ b) (ea : rdR .down a = some ra) (eb : rdR .up b = some rb) : (∃ r, rdR .down v = some r) ∧ ∃ r, rdR .up v = some r := by
  unfold rdR at *
  by_cases c0 : v = 0
  · exact ⟨⟨0, if_pos c0⟩, ⟨0, if_pos c0⟩⟩
  · rw [if_neg c0, if_neg c0]
    by_cases c1 : v < 0
    · rw [if_pos c1, if_pos c1]
      rw [if_neg (by grind), if_pos (by grind)] at ea
      obtain ⟨s, hs, _⟩ := Option.map_eq_some_iff.mp ea
      obtain ⟨z, hz, _⟩ := rd1_mono _ (show 0 < -v by grind) (show -v ≤ -a by grind) hs
      obtain ⟨y, hy⟩ := rd1_nm (by grind) hz
      exact ⟨⟨-z, by rw [hz]; rfl⟩, ⟨-y, by show Option.map _ (rd1 .nought (-v)) = _; rw [hy]; rfl⟩⟩
    · rw [if_neg c1, if_neg c1]
      rw [if_neg (by grind), if_neg (by grind)] at eb
      obtain ⟨z, hz, _⟩ := rd1_mono _ (show 0 < v by grind) h2 eb
      obtain ⟨y, hy⟩ := rd1_nm (by grind) hz
      exact ⟨⟨y, hy⟩, ⟨z, hz⟩⟩
theorem exV_wide {a v b : Rat} {sa sb : Int × Int} (h1 : a ≤ v) (h2 : v ≤ b) (ea : exV .down a = some sa) (eb : exV .up b = some sb) : (∃ s, exV .down v = some s) ∧ ∃ s, exV .up v = some s := by
  obtain ⟨⟨r, hr⟩, ⟨r', hr'⟩⟩ := rd_wide h1 h2 (exV_some ea).2 (exV_some eb).2
  constructor
  · cases e : exV .down v with
    | none => rw [exV_none e] at hr; cases hr
    | some s => exact ⟨s, rfl⟩
  · cases e : exV .up v with
    | none => rw [exV_none e] at hr'; cases hr'
    | some s => exact ⟨s, rfl⟩
/-! bounds hold -/
/-- v lies in p -/
def InP (p : Pr) (v : Rat) : Prop := vl p.1 ≤ v ∧ v ≤ vl p.2
/-- p lies in q -/
def SubP (p q : Pr) : Prop := vl q.1 ≤ vl p.1 ∧ vl p.1 ≤ vl p.2 ∧ vl p.2 ≤ vl q.2
def Tw.opR : Tw → Rat → Rat → Rat
  | .plus, x, y => x + y | .minus, x, y => x - y | .times, x, y => x * y
theorem pairO_some {x y : Option (Int × Int)} {r : Pr} (h : pairO x y = some r) : x = some r.1 ∧ y = some r.2 := by
  cases x <;> cases y <;> cases h
  exact ⟨rfl, rfl⟩
/-- the exact ends -/
def Tw.lo (w : Tw) (p q : Pr) : Rat := match w with
  | .plus => vl p.1 + vl q.1
  | .minus => vl p.1 - vl q.2
  | .times => mn4 (vl p.1 * vl q.1) (vl p.1 * vl q.2) (vl p.2 * vl q.1) (vl p.2 * vl q.2)
def Tw.hi (w : Tw) (p q : Pr) : Rat := match w with
  | .plus => vl p.2 + vl q.2
  | .minus => vl p.2 - vl q.1
  | .times => mx4 (vl p.1 * vl q.1) (vl p.1 * vl q.2) (vl p.2 * vl q.1) (vl p.2 * vl q.2)
theorem rg_eq (w : Tw) (p q : Pr) : w.rg p q = pairO (exV .down (w.lo p q)) (exV .up (w.hi p q)) := by cases w <;> rfl
theorem op_in (w : Tw) {p q : Pr} {x y : Rat} (hx : InP p x) (hy : InP q y) : w.lo p q ≤ w.opR x y ∧ w.opR x y ≤ w.hi p q := by
  obtain ⟨a, b⟩ := hx
  obtain ⟨c, d⟩ := hy
  cases w with
  | plus =>
    show vl p.1 + vl q.1 ≤ x + y ∧ x + y ≤ vl p.2 + vl q.2
    constructor <;> grind
  | minus =>
    show vl p.1 - vl q.2 ≤ x - y ∧ x - y ≤ vl p.2 - vl q.1
    constructor <;> grind
  | times => exact mul_in a b c d
theorem rg_in {w : Tw} {p q r : Pr} {x y : Rat} (h : w.rg p q = some r) (hx : InP p x) (hy : InP q y) : InP r (w.opR x y) := by
  rw [rg_eq] at h
  obtain ⟨h1, h2⟩ := pairO_some h
  obtain ⟨a, b⟩ := op_in w hx hy
  exact ⟨Rat.le_trans (exV_down h1) a, Rat.le_trans b (exV_up h2)⟩
theorem ends_in (w : Tw) {p q : Pr} (hp : vl p.1 ≤ vl p.2) (hq : vl q.1 ≤ vl q.2) : ∃ x y x' y', InP p x ∧ InP q y ∧ InP p x' ∧ InP q y' ∧ w.lo p q = w.opR x y ∧ w.hi p q = w.opR x' y' := by
  have p1 : InP p (vl p.1) := ⟨Rat.le_refl, hp⟩
  have p2 : InP p (vl p.2) := ⟨hp, Rat.le_refl⟩
  have q1 : InP q (vl q.1) := ⟨Rat.le_refl, hq⟩
  have q2 : InP q (vl q.2) := ⟨hq, Rat.le_refl⟩
  cases w with
  | plus => exact ⟨_, _, _, _, p1, q1, p2, q2, rfl, rfl⟩
  | minus => exact ⟨_, _, _, _, p1, q2, p2, q1, rfl, rfl⟩
  | times =>
    obtain ⟨_, _, _, _, m⟩ := mn4_le (vl p.1 * vl q.1) (vl p.1 * vl q.2) (vl p.2 * vl q.1) (vl p.2 * vl q.2)
    obtain ⟨_, _, _, _, n⟩ := mx4_ge (vl p.1 * vl q.1) (vl p.1 * vl q.2) (vl p.2 * vl q.1) (vl p.2 * vl q.2)
    have l : ∃ x y, InP p x ∧ InP q y ∧ Tw.times.lo p q = x * y := by
      rcases m with m | m | m | m
      · exact ⟨_, _, p1, q1, m⟩
      · exact ⟨_, _, p1, q2, m⟩
      · exact ⟨_, _, p2, q1, m⟩
      · exact ⟨_, _, p2, q2, m⟩
    have h : ∃ x y, InP p x ∧ InP q y ∧ Tw.times.hi p q = x * y := by
      rcases n with m | m | m | m
      · exact ⟨_, _, p1, q1, m⟩
      · exact ⟨_, _, p1, q2, m⟩
      · exact ⟨_, _, p2, q1, m⟩
      · exact ⟨_, _, p2, q2, m⟩
    obtain ⟨x, y, l1, l2, l3⟩ := l
    obtain ⟨x', y', h1, h2, h3⟩ := h
    exact ⟨x, y, x', y', l1, l2, h1, h2, l3, h3⟩
theorem SubP.inP {p q : Pr} {v : Rat} (h : SubP p q) (hv : InP p v) : InP q v := ⟨Rat.le_trans h.1 hv.1, Rat.le_trans hv.2 h.2.2⟩
/-- told between two that are told -/
theorem pair_wide {a b u v : Rat} {s t : Int × Int} (h1 : a ≤ u) (h2 : u ≤ v) (h3 : v ≤ b) (ea : exV .down a = some s) (eb : exV .up b = some t) : ∃ r, pairO (exV .down u) (exV .up v) = some r ∧ SubP r (s, t) := by
  obtain ⟨⟨x, hx⟩, _⟩ := exV_wide h1 (Rat.le_trans h2 h3) ea eb
  obtain ⟨_, ⟨y, hy⟩⟩ := exV_wide (Rat.le_trans h1 h2) h3 ea eb
  refine ⟨(x, y), by rw [hx, hy]; rfl, exV_mono h1 ea hx, ?_, exV_mono h3 hy eb⟩
  exact Rat.le_trans (exV_down hx) (Rat.le_trans h2 (exV_up hy))
theorem lo_hi (w : Tw) {p q : Pr} (hp : vl p.1 ≤ vl p.2) (hq : vl q.1 ≤ vl q.2) : w.lo p q ≤ w.hi p q := by
  obtain ⟨a, b⟩ := op_in w (p := p) (q := q) (x := vl p.1) (y := vl q.1) ⟨Rat.le_refl, hp⟩ ⟨Rat.le_refl, hq⟩
  exact Rat.le_trans a b
theorem rg_mono {w : Tw} {p q p' q' r' : Pr} (h : w.rg p' q' = some r') (hp : SubP p p') (hq : SubP q q') : ∃ r, w.rg p q = some r ∧ SubP r r' := by
  rw [rg_eq] at h ⊢
  obtain ⟨h1, h2⟩ := pairO_some h
  obtain ⟨x, y, x', y', i1, i2, i3, i4, e1, e2⟩ := ends_in w hp.2.1 hq.2.1
  obtain ⟨a, _⟩ := op_in w (hp.inP i1) (hq.inP i2)
  obtain ⟨_, b⟩ := op_in w (hp.inP i3) (hq.inP i4)
  rw [← e1] at a
  rw [← e2] at b
  exact pair_wide a (lo_hi w hp.2.1 hq.2.1) b h1 h2
theorem tnP_vl (p : Pr) : vl (tnP p).1 = -vl p.2 ∧ vl (tnP p).2 = -vl p.1 := ⟨vl_neg p.2, vl_neg p.1⟩
/-- the value by Rat -/
def Fm.vr (bx : List Rat) : Fm → Rat
  | .name k => bx.getD k 0
  | .num n => (n : Rat)
  | .sign f => -(f.vr bx)
  | .two w f g => w.opR (f.vr bx) (g.vr bx)
theorem two_some {w : Tw} {f g : Fm} {rs : List Pr} {r : Pr} (h : (Fm.two w f g).bd rs = some r) : ∃ p q, f.bd rs = some p ∧ g.bd rs = some q ∧ w.rg p q = some r := by
  have h : (f.bd rs).bind (fun p => (g.bd rs).bind fun q => w.rg p q) = some r := h
  obtain ⟨p, h1, h⟩ := Option.bind_eq_some_iff.mp h
  obtain ⟨q, h2, h⟩ := Option.bind_eq_some_iff.mp h
  exact ⟨p, q, h1, h2, h⟩
theorem sign_some {f : Fm} {rs : List Pr} {r : Pr} (h : (Fm.sign f).bd rs = some r) : ∃ p, f.bd rs = some p ∧ tnP p = r := Option.map_eq_some_iff.mp h
theorem two_of {w : Tw} {f g : Fm} {rs : List Pr} {p q r : Pr} (h1 : f.bd rs = some p) (h2 : g.bd rs = some q) (h : w.rg p q = some r) : (Fm.two w f g).bd rs = some r := by
  show (f.bd rs).bind (fun p => (g.bd rs).bind fun q => w.rg p q) = some r
  rw [h1, h2]; exact h
theorem sign_of {f : Fm} {rs : List Pr} {p : Pr} (h1 : f.bd rs = some p) : (Fm.sign f).bd rs = some (tnP p) := by
  show (f.bd rs).map tnP = _
  rw [h1]; rfl
theorem bd_in {rs : List Pr} {bx : List Rat} (hb : ∀ (k : Nat) (p : Pr), rs[k]? = some p → InP p (bx.getD k 0)) : ∀ (f : Fm) (p : Pr), f.bd rs = some p → InP p (f.vr bx)
  | .name k, p, e => hb k p e
  | .num n, p, e => by
    cases e
    show vl ((n : Int), 0) ≤ (n : Rat) ∧ (n : Rat) ≤ vl ((n : Int), 0)
    rw [vl_int]
    exact ⟨Rat.le_refl, Rat.le_refl⟩
  | .sign f, p, e => by
    obtain ⟨q, h1, rfl⟩ := sign_some e
    obtain ⟨a, b⟩ := bd_in hb f q h1
    obtain ⟨c, d⟩ := tnP_vl q
    show vl (tnP q).1 ≤ -(f.vr bx) ∧ -(f.vr bx) ≤ vl (tnP q).2
    rw [c, d]
    exact ⟨Rat.neg_le_neg b, Rat.neg_le_neg a⟩
  | .two w f g, p, e => by
    obtain ⟨q1, q2, h1, h2, h3⟩ := two_some e
    exact rg_in h3 (bd_in hb f q1 h1) (bd_in hb g q2 h2)
theorem bd_mono {rs rs' : List Pr} (hb : ∀ (k : Nat) (p' : Pr), rs'[k]? = some p' → ∃ p, rs[k]? = some p ∧ SubP p p') : ∀ (f : Fm) (p' : Pr), f.bd rs' = some p' → ∃ p, f.bd rs = some p ∧ SubP p p'
  | .name k, p, e => hb k p e
  | .num n, p, e => by
    cases e
    exact ⟨_, rfl, Rat.le_refl, Rat.le_refl, Rat.le_refl⟩
  | .sign f, p, e => by
    obtain ⟨q, h1, rfl⟩ := sign_some e
    obtain ⟨r, r1, r2⟩ := bd_mono hb f q h1
    refine ⟨_, sign_of r1, ?_⟩
    obtain ⟨c, d⟩ := tnP_vl q
    obtain ⟨c', d'⟩ := tnP_vl r
    unfold SubP
    rw [c, d, c', d']
    exact ⟨Rat.neg_le_neg r2.2.2, Rat.neg_le_neg r2.2.1, Rat.neg_le_neg r2.1⟩
  | .two w f g, p, e => by
    obtain ⟨q1, q2, h1, h2, h3⟩ := two_some e
    obtain ⟨r1, a1, a2⟩ := bd_mono hb f q1 h1
    obtain ⟨r2, b1, b2⟩ := bd_mono hb g q2 h2
    obtain ⟨r, c1, c2⟩ := rg_mono h3 a2 b2
    exact ⟨r, two_of a1 b1 c1, c2⟩
theorem vr_val (bx : List Int) : ∀ (f : Fm), f.vr (bx.map fun i : Int => (i : Rat)) = ((f.val bx : Int) : Rat)
  | .name k => by
    show (bx.map fun i : Int => (i : Rat)).getD k 0 = ((bx.getD k 0 : Int) : Rat)
    rw [List.getD_eq_getElem?_getD, List.getD_eq_getElem?_getD, List.getElem?_map]
    cases bx[k]? <;> rfl
  | .num n => rfl
  | .sign f => by
    show -(f.vr _) = ((-(f.val bx) : Int) : Rat)
    rw [vr_val bx f, Rat.intCast_neg]
  | .two w f g => by
    show w.opR (f.vr _) (g.vr _) = ((w.op (f.val bx) (g.val bx) : Int) : Rat)
    rw [vr_val bx f, vr_val bx g]
    cases w with
    | plus => exact (Rat.intCast_add _ _).symm
    | minus => exact (Rat.intCast_sub _ _).symm
    | times => exact (Rat.intCast_mul _ _).symm
/-! bounds of small numbers; how long a formula is shown -/
def symP (e : Nat) : Pr := ((-1, (e : Int)), (1, (e : Int)))
theorem sym_vl (e : Nat) : vl (symP e).1 = -T e ∧ vl (symP e).2 = T e := by
  constructor
  · show ((-1 : Int) : Rat) * T e = _
    grind
  · show ((1 : Int) : Rat) * T e = _
    grind
theorem sym_ok {e : Nat} (h : e ≤ 40) : NumOk (-1) (e : Int) ∧ NumOk 1 (e : Int) := by
  have f1 : figs 1 = 1 := figs_small (by decide)
  constructor
  · refine .inr ⟨by decide, by decide, by decide, ?_, ?_⟩
    · show -40 ≤ (e : Int) + (figs 1 : Int) - 1
      rw [f1]; omega
    · show (e : Int) + (figs 1 : Int) - 1 ≤ 40
      rw [f1]; omega
  · refine .inr ⟨by decide, by decide, by decide, ?_, ?_⟩
    · show -40 ≤ (e : Int) + (figs 1 : Int) - 1
      rw [f1]; omega
    · show (e : Int) + (figs 1 : Int) - 1 ≤ 40
      rw [f1]; omega
theorem op_sym (w : Tw) {B x y : Rat} (hB : 2 ≤ B) (h1 : -B ≤ x) (h2 : x ≤ B) (h3 : -B ≤ y) (h4 : y ≤ B) : -(B * B) ≤ w.opR x y ∧ w.opR x y ≤ B * B := by
  have hBB : B + B ≤ B * B := by
    have := Rat.mul_le_mul_of_nonneg_right hB (show 0 ≤ B by grind)
    grind
  cases w with
  | plus =>
    show -(B * B) ≤ x + y ∧ x + y ≤ B * B
    constructor <;> grind
  | minus =>
    show -(B * B) ≤ x - y ∧ x - y ≤ B * B
    constructor <;> grind
  | times =>
    show -(B * B) ≤ x * y ∧ x * y ≤ B * B
    have b0 : 0 ≤ B := by grind
    have c1 := mul_lo (y := y) h1 h2
    have c2 := mul_hi (y := y) h1 h2
    have d1 := Rat.mul_le_mul_of_nonneg_right h3 b0
    have d2 := Rat.mul_le_mul_of_nonneg_right h4 b0
    constructor <;> grind
theorem sub_sym {p : Pr} {e e' : Nat} (h : SubP p (symP e)) (he : e ≤ e') : SubP p (symP e') := by
  have := T_mono (show (e : Int) ≤ (e' : Int) by omega)
  obtain ⟨a, b⟩ := sym_vl e
  obtain ⟨c, d⟩ := sym_vl e'
  unfold SubP at *
  rw [a, b] at h
  rw [c, d]
  grind
theorem rg_sym {w : Tw} {p q : Pr} {e : Nat} (h1 : 1 ≤ e) (h2 : 2 * e ≤ 40) (hp : SubP p (symP e)) (hq : SubP q (symP e)) : ∃ r, w.rg p q = some r ∧ SubP r (symP (2 * e)) := by
  obtain ⟨x, y, x', y', i1, i2, i3, i4, e1, e2⟩ := ends_in w hp.2.1 hq.2.1
  obtain ⟨a, b⟩ := sym_vl e
  obtain ⟨c, d⟩ := sym_vl (2 * e)
  have hT : T ((2 * e : Nat) : Int) = T e * T e := by rw [← T_add]; congr 1; omega
  have h2B : 2 ≤ T e := by
    have := T_mono (show (1 : Int) ≤ (e : Int) by omega)
    rw [T_one] at this
    grind
  have j1 := hp.inP i1
  have j2 := hq.inP i2
  have j3 := hp.inP i3
  have j4 := hq.inP i4
  unfold InP at j1 j2 j3 j4
  rw [a, b] at j1 j2 j3 j4
  have k1 := (op_sym w h2B j1.1 j1.2 j2.1 j2.2).1
  have k2 := (op_sym w h2B j3.1 j3.2 j4.1 j4.2).2
  rw [← e1, ← hT] at k1
  rw [← e2, ← hT] at k2
  rw [rg_eq]
  obtain ⟨o1, o2⟩ := sym_ok h2
  have f1 := exV_fix .down o1
  have f2 := exV_fix .up o2
  exact pair_wide (s := (symP (2 * e)).1) (t := (symP (2 * e)).2) (a := vl (symP (2 * e)).1) (b := vl (symP (2 * e)).2) (by rw [c]; exact k1) (lo_hi w hp.2.1 hq.2.1) (by rw [d]; exact k2) f1 f2
theorem bd_sym {rs : List Pr} (hl : rs.length = 3) (hr : ∀ p ∈ rs, SubP p (symP 1)) : ∀ (n : Nat) (f : Fm), n ≤ 5 → f.Ok → f.dp ≤ n + 1 → ∃ p, f.bd rs = some p ∧ SubP p (symP (2 ^ n))
  | n, .name k, hn, h, _ => by
    have hk : k < rs.length := by rw [hl]; exact h
    exact ⟨rs[k], List.getElem?_eq_getElem hk, sub_sym (hr _ (List.getElem_mem hk)) Nat.one_le_two_pow⟩
  | n, .num m, hn, h, _ => by
    refine ⟨_, rfl, sub_sym (e := 1) ?_ Nat.one_le_two_pow⟩
    obtain ⟨a, b⟩ := sym_vl 1
    unfold SubP
    rw [a, b, show T ((1 : Nat) : Int) = 10 from T_one]
    show -10 ≤ vl ((m : Int), 0) ∧ vl ((m : Int), 0) ≤ vl ((m : Int), 0) ∧ vl ((m : Int), 0) ≤ 10
    rw [vl_int]
    have hm : m < 10 := h
    have h1 : ((m : Int) : Rat) ≤ ((10 : Int) : Rat) := Rat.intCast_le_intCast.mpr (by omega)
    have h2 : ((-10 : Int) : Rat) ≤ ((m : Int) : Rat) := Rat.intCast_le_intCast.mpr (by omega)
    exact ⟨h2, Rat.le_refl, h1⟩
  | 0, .sign f, hn, h, hd => by
    have := f.dp_pos
    simp only [Fm.dp] at hd
    omega
  | n + 1, .sign f, hn, h, hd => by
    obtain ⟨p, p1, p2⟩ := bd_sym hl hr n f (by omega) h (by simp only [Fm.dp] at hd; omega)
    refine ⟨_, sign_of p1, sub_sym (e := 2 ^ n) ?_ (Nat.pow_le_pow_right (by omega) (by omega))⟩
    obtain ⟨a, b⟩ := sym_vl (2 ^ n)
    obtain ⟨c, d⟩ := tnP_vl p
    unfold SubP at *
    rw [a, b] at p2 ⊢
    rw [c, d]
    grind
  | 0, .two w f g, hn, h, hd => by
    have := f.dp_pos
    simp only [Fm.dp] at hd
    omega
  | n + 1, .two w f g, hn, h, hd => by
    simp only [Fm.dp] at hd
    obtain ⟨p, p1, p2⟩ := bd_sym hl hr n f (by omega) h.1 (by omega)
    obtain ⟨q, q1, q2⟩ := bd_sym hl hr n g (by omega) h.2 (by omega)
    have hp : 2 ^ n ≤ 2 ^ 4 := Nat.pow_le_pow_right (by omega) (by omega)
    obtain ⟨r, r1, r2⟩ := rg_sym (w := w) (e := 2 ^ n) Nat.one_le_two_pow (by omega) p2 q2
    exact ⟨r, two_of p1 q1 r1, by rw [show 2 ^ (n + 1) = 2 * 2 ^ n by omega]; exact r2⟩
/-- leaves -/
def Fm.lv : Fm → Nat
  | .name _ => 1
  | .num _ => 1
  | .sign f => f.lv
  | .two _ f g => f.lv + g.lv
theorem Fm.lv_pos : ∀ f : Fm, 1 ≤ f.lv
  | .name _ => Nat.le_refl 1
  | .num _ => Nat.le_refl 1
  | .sign f => f.lv_pos
  | .two _ f g => by have := f.lv_pos; simp only [Fm.lv]; omega
theorem ex_int (m : Mn) {v : Int} (h : v.natAbs < 10 ^ 8) : exV m (v : Rat) = some (tidyZ v 0) := by
  have ok := tidy_ok (b := 0) h (by omega) (by omega)
  have e := tidy_vl v 0
  rw [vl_int] at e
  rw [← e]
  exact exV_fix m ok
theorem mn4_one (x : Rat) : mn4 x x x x = x ∧ mx4 x x x x = x := by
  constructor
  · obtain ⟨_, _, _, _, m⟩ := mn4_le x x x x
    grind
  · obtain ⟨_, _, _, _, m⟩ := mx4_ge x x x x
    grind
theorem rg_one (w : Tw) {s t : Int × Int} {x y : Int} (hs : vl s = (x : Rat)) (ht : vl t = (y : Rat)) (h : (w.op x y).natAbs < 10 ^ 8) : w.rg (s, s) (t, t) = some (tidyZ (w.op x y) 0, tidyZ (w.op x y) 0) := by
  have e : w.lo (s, s) (t, t) = ((w.op x y : Int) : Rat) ∧ w.hi (s, s) (t, t) = ((w.op x y : Int) : Rat) := by
    cases w with
    | plus =>
      show vl s + vl t = ((x + y : Int) : Rat) ∧ vl s + vl t = ((x + y : Int) : Rat)
      rw [hs, ht, Rat.intCast_add]; exact ⟨rfl, rfl⟩
    | minus =>
      show vl s - vl t = ((x - y : Int) : Rat) ∧ vl s - vl t = ((x - y : Int) : Rat)
      rw [hs, ht, Rat.intCast_sub]; exact ⟨rfl, rfl⟩
    | times =>
      have := mn4_one (vl s * vl t)
      show mn4 (vl s * vl t) (vl s * vl t) (vl s * vl t) (vl s * vl t) = ((x * y : Int) : Rat) ∧ mx4 (vl s * vl t) (vl s * vl t) (vl s * vl t) (vl s * vl t) = ((x * y : Int) : Rat)
      rw [this.1, this.2, hs, ht, Rat.intCast_mul]; exact ⟨rfl, rfl⟩
  rw [rg_eq, e.1, e.2, ex_int .down h, ex_int .up h]
  rfl
theorem op_nat (w : Tw) {x y : Int} {a b : Nat} (ha : 1 ≤ a) (hb : 1 ≤ b) (hx : x.natAbs ≤ 9 ^ a) (hy : y.natAbs ≤ 9 ^ b) : (w.op x y).natAbs ≤ 9 ^ (a + b) := by
  have a9 : 9 ^ 1 ≤ 9 ^ a := Nat.pow_le_pow_right (by omega) ha
  have b9 : 9 ^ 1 ≤ 9 ^ b := Nat.pow_le_pow_right (by omega) hb
  have m1 := Nat.mul_le_mul a9 (Nat.le_refl (9 ^ b))
  have m2 := Nat.mul_le_mul (Nat.le_refl (9 ^ a)) b9
  rw [Nat.pow_add]
  cases w with
  | plus =>
    show (x + y).natAbs ≤ _
    omega
  | minus =>
    show (x - y).natAbs ≤ _
    omega
  | times =>
    show (x * y).natAbs ≤ _
    rw [Int.natAbs_mul]
    exact Nat.mul_le_mul hx hy
theorem bd_one {rs : List Pr} {bx : List Int} (hb : ∀ k, k < 3 → ∃ s : Int × Int, rs[k]? = some (s, s) ∧ vl s = ((bx.getD k 0 : Int) : Rat) ∧ (bx.getD k 0).natAbs ≤ 9) : ∀ f : Fm, f.Ok → f.lv ≤ 3 → ∃ s : Int × Int, f.bd rs = some (s, s) ∧ vl s = ((f.val bx : Int) : Rat) ∧ (f.val bx).natAbs ≤ 9 ^ f.lv
  | .name k, h, _ => hb k h
  | .num n, h, _ => ⟨((n : Int), 0), rfl, vl_int _, by
      have h : n < 10 := h
      show (n : Int).natAbs ≤ 9 ^ 1
      omega⟩
  | .sign f, h, hl => by
    obtain ⟨s, s1, s2, s3⟩ := bd_one hb f h hl
    refine ⟨(-s.1, s.2), sign_of s1, ?_, ?_⟩
    · rw [vl_neg, s2, ← Rat.intCast_neg]; rfl
    · show (-(f.val bx)).natAbs ≤ 9 ^ f.lv
      rw [Int.natAbs_neg]; exact s3
  | .two w f g, h, hl => by
    simp only [Fm.lv] at hl
    obtain ⟨s, s1, s2, s3⟩ := bd_one hb f h.1 (by omega)
    obtain ⟨t, t1, t2, t3⟩ := bd_one hb g h.2 (by omega)
    have n := op_nat w f.lv_pos g.lv_pos s3 t3
    have n8 : (w.op (f.val bx) (g.val bx)).natAbs < 10 ^ 8 := by
      have : 9 ^ (f.lv + g.lv) ≤ 9 ^ 3 := Nat.pow_le_pow_right (by omega) hl
      omega
    refine ⟨tidyZ (w.op (f.val bx) (g.val bx)) 0, two_of s1 t1 (rg_one w s2 t2 n8), ?_, n⟩
    rw [tidy_vl, vl_int]; rfl
/-! ### how long it is shown -/
theorem rt_len : (reprText "name").length = 6 ∧ (reprText "number").length = 8 ∧ (reprText "sign").length = 6 ∧ (reprText "plus").length = 6 ∧ (reprText "minus").length = 7 ∧ (reprText "times").length = 7 := by
  decide +kernel
theorem one_len {n : Nat} (h : n < 10) : (PyData.shown (.int (n : Int))).length = 1 := by
  have : ∀ n : Nat, n < 10 → (PyData.shown (.int (n : Int))).length = 1 := by decide +kernel
  exact this n h
theorem tlen2 (x y : Str) : (tupleText [x, y]).length = x.length + y.length + 4 := by
  unfold tupleText
  rw [strLen_append, strLen_append]
  show 1 + (x ++ Str.ofString ", " ++ y).length + 1 = _
  rw [strLen_append, strLen_append]
  show 1 + (x.length + 2 + y.length) + 1 = _
  omega
theorem tlen3 (x y z : Str) : (tupleText [x, y, z]).length = x.length + y.length + z.length + 6 := by
  unfold tupleText
  rw [strLen_append, strLen_append]
  show 1 + (x ++ Str.ofString ", " ++ (y ++ Str.ofString ", " ++ z)).length + 1 = _
  rw [strLen_append, strLen_append, strLen_append, strLen_append]
  show 1 + (x.length + 2 + (y.length + 2 + z.length)) + 1 = _
  omega
def Fm.sh (f : Fm) : Nat := (pyO f.D).shown.length
theorem sh_name {k : Nat} (h : k < 3) : (Fm.name k).sh = 11 := by
  show (tupleText [reprText "name", PyData.shown (.int (k : Int))]).length = 11
  rw [tlen2, rt_len.1, one_len (by omega)]
theorem sh_num {k : Nat} (h : k < 10) : (Fm.num k).sh = 13 := by
  show (tupleText [reprText "number", PyData.shown (.int (k : Int))]).length = 13
  rw [tlen2, rt_len.2.1, one_len h]
theorem sh_sign (f : Fm) : (Fm.sign f).sh = f.sh + 10 := by
  show (tupleText [reprText "sign", (pyO f.D).shown]).length = _
  rw [tlen2, rt_len.2.2.1]
  show 6 + f.sh + 4 = _
  omega
theorem sh_two (w : Tw) (f g : Fm) : f.sh + g.sh + 12 ≤ (Fm.two w f g).sh ∧ (Fm.two w f g).sh ≤ f.sh + g.sh + 13 := by
  have e : (Fm.two w f g).sh = (tupleText [reprText w.s, (pyO f.D).shown, (pyO g.D).shown]).length := rfl
  rw [e, tlen3]
  have hw : 6 ≤ (reprText w.s).length ∧ (reprText w.s).length ≤ 7 := by
    obtain ⟨_, _, _, a, b, c⟩ := rt_len
    cases w with
    | plus => exact ⟨Nat.le_of_eq a.symm, by show (reprText "plus").length ≤ 7; omega⟩
    | minus => exact ⟨by show 6 ≤ (reprText "minus").length; omega, Nat.le_of_eq b⟩
    | times => exact ⟨by show 6 ≤ (reprText "times").length; omega, Nat.le_of_eq c⟩
  show f.sh + g.sh + 12 ≤ (reprText w.s).length + f.sh + g.sh + 6 ∧ (reprText w.s).length + f.sh + g.sh + 6 ≤ f.sh + g.sh + 13
  omega
theorem sh_lo : ∀ f : Fm, f.Ok → 23 * f.lv ≤ f.sh + 12
  | .name k, h => by rw [sh_name h]; simp only [Fm.lv, Fm.dp]; omega
  | .num k, h => by rw [sh_num h]; simp only [Fm.lv, Fm.dp]; omega
  | .sign f, h => by
    have := sh_lo f h
    rw [sh_sign]
    simp only [Fm.lv]
    omega
  | .two w f g, h => by
    have := sh_lo f h.1
    have := sh_lo g h.2
    have := (sh_two w f g).1
    simp only [Fm.lv]
    omega
theorem sh_hi : ∀ f : Fm, f.Ok → f.sh + 13 ≤ 26 * 2 ^ f.dp
  | .name k, h => by rw [sh_name h]; simp only [Fm.lv, Fm.dp]; omega
  | .num k, h => by rw [sh_num h]; simp only [Fm.lv, Fm.dp]; omega
  | .sign f, h => by
    have := sh_hi f h
    rw [sh_sign]
    simp only [Fm.dp]
    omega
  | .two w f g, h => by
    have h1 := sh_hi f h.1
    have h2 := sh_hi g h.2
    have := (sh_two w f g).2
    have a : 2 ^ f.dp ≤ 2 ^ max f.dp g.dp := Nat.pow_le_pow_right (by omega) (by omega)
    have b : 2 ^ g.dp ≤ 2 ^ max f.dp g.dp := Nat.pow_le_pow_right (by omega) (by omega)
    simp only [Fm.dp]
    omega
theorem log_small {n : Nat} (h : n < 10) : ((n : Int).natAbs.log2 < 1920) := by
  have : ∀ n : Nat, n < 10 → (n : Int).natAbs.log2 < 1920 := by decide +kernel
  exact this n h
theorem sh_ok : ∀ f : Fm, f.Ok → (pyO f.D).showable = true
  | .name k, h => by
    show (true && (decide ((k : Int).natAbs.log2 < 1920) && true)) = true
    rw [decide_eq_true (log_small (n := k) (by have h : k < 3 := h; omega))]; rfl
  | .num k, h => by
    show (true && (decide ((k : Int).natAbs.log2 < 1920) && true)) = true
    rw [decide_eq_true (log_small (n := k) h)]; rfl
  | .sign f, h => by
    show (true && ((pyO f.D).showable && true)) = true
    rw [sh_ok f h]; rfl
  | .two w f g, h => by
    show (true && ((pyO f.D).showable && ((pyO g.D).showable && true))) = true
    rw [sh_ok f h.1, sh_ok g h.2]; rfl
theorem tw_str (w : Tw) : PyData.strOk w.s = true := by cases w <;> decide +kernel
theorem fm_plain : ∀ (f : Fm) (n : Nat), f.dp ≤ n → DN.plain n f.D = true
  | f, 0, h => by have := f.dp_pos; omega
  | .name k, n + 1, h => by
    show (PyData.strOk (Str.ofString "name") && (DN.plain n (.int k) && true)) = true
    rw [show PyData.strOk (Str.ofString "name") = true by decide +kernel]
    cases n <;> rfl
  | .num k, n + 1, h => by
    show (PyData.strOk (Str.ofString "number") && (DN.plain n (.int k) && true)) = true
    rw [show PyData.strOk (Str.ofString "number") = true by decide +kernel]
    cases n <;> rfl
  | .sign f, n + 1, h => by
    have := fm_plain f n (by simp only [Fm.dp] at h; omega)
    show (DN.plain n (.str "sign") && (DN.plain n f.D && true)) = true
    rw [this]
    have e : DN.plain n (.str "sign") = true := by
      have q : PyData.strOk (Str.ofString "sign") = true := by decide +kernel
      cases n <;> exact q
    rw [e]; rfl
  | .two w f g, n + 1, h => by
    simp only [Fm.dp] at h
    have h1 := fm_plain f n (by omega)
    have h2 := fm_plain g n (by omega)
    show (DN.plain n (.str w.s) && (DN.plain n f.D && (DN.plain n g.D && true))) = true
    have e : DN.plain n (.str w.s) = true := by cases n <;> exact tw_str w
    rw [h1, h2, e]; rfl
/-! ### k55 -/
theorem x_tdy {a : Int} (h : a.natAbs < 10 ^ 8) : d__law_tidy [.int a, .int 0] = .ok (numD (tidyZ a 0)) := by
  by_cases h0 : a = 0
  · subst h0
    exact x_tidy0
  · have e : tidyZ a 0 = strip 5000 a 0 := if_neg h0
    rw [e]
    exact x_tidyS h0 (Nat.lt_of_lt_of_le h (pow10_le (by decide)))
section
variable {e0 e1 e2 e3 e4 e5 e7 e9 : En}
end
structure Five (a0 a1 a2 a3 a4 : Int) : Prop where
  l : -10000 ≤ a0
  h1 : a0 ≤ a1
  h2 : a1 ≤ a2
  h3 : a2 ≤ a3
  h4 : a3 ≤ a4
  h : a4 ≤ 26000
theorem b2_ev {ns : List Int} {k : Int} (hk0 : 0 ≤ k) (hk : k < 3) : ∃ a0 a1 a2 a3 a4 : Int, Five a0 a1 a2 a3 a4 ∧ ∀ (F : D) (e6 e7 e8 e9 : En) (W N P : List D), (∀ d, e8 ≠ .o d) → W.length < 10 → N.length < 10 → P.length < 10 → ∃ f6 f7 f8 f9 : En, (∀ d, f8 ≠ .o d) ∧
    b2_law [.z (.arr ns), .z F, .o (.lst W), .o (.lst N), .o (.lst P), .z (.int k), e6, e7, e8, e9, .u, .u, .u, .u, .u, .u, .u, .u] =
      .nx [.z (.arr ns), .z F, .o (.lst (W ++ [pD (tidyZ a0 0, tidyZ a4 0)])), .o (.lst (N ++ [pD (tidyZ a1 0, tidyZ a3 0)])), .o (.lst (P ++ [.tup [.int a1, .int a2, .int a3]])), .z (.int k), f6, f7, f8, f9, .u, .u, .u, .u, .u, .u, .u, .u] := by
  obtain ⟨m, m1, m2, m3⟩ := x_mixed (ns := ns) (k := 2 + k) (by omega) (by omega)
  have hm : ∃ a0 : Int, a0 = m % 20001 - 10000 := ⟨_, rfl⟩
  obtain ⟨a0, ha0⟩ := hm
  have key : ∀ t : Int, 0 ≤ t → t < 4 → ∃ y : Int, 0 ≤ y ∧ y ≤ 4000 ∧ ∀ (e0 e1 e2 e3 e4 e5 e7 : En) (x : Int) (ds : List D), x.natAbs < 10 ^ 6 → ds.length < 10 → ixRR (.ok ds) (.ok (.int (-1))) = .ok (.int x) →
      b1_law [e0, e1, e2, e3, e4, e5, .z (.int m), e7, .o (.lst ds), .z (.int t), .u, .u, .u, .u, .u, .u, .u, .u] = .nx [e0, e1, e2, e3, e4, e5, .z (.int m), e7, .o (.lst (ds ++ [.int (x + y)])), .z (.int t), .u, .u, .u, .u, .u, .u, .u, .u] := by
    intro t h0 h1
    obtain ⟨d, d1, d2, d3⟩ := x_drawn (n := m) (k := t) h0 (by omega)
    have q : m / 32768 % 4 = 0 ∨ m / 32768 % 4 = 1 ∨ m / 32768 % 4 = 2 ∨ m / 32768 % 4 = 3 := by omega
    rcases q with q | q | q | q
    · exact ⟨d / 4 % 3, by omega, by omega, fun e0 e1 e2 e3 e4 e5 e7 x ds hx hl hi => by simp?! [b1_law, d1, q, hi, appRR_ok]⟩
    · exact ⟨d / 4 % 100, by omega, by omega, fun e0 e1 e2 e3 e4 e5 e7 x ds hx hl hi => by simp?! [b1_law, d1, q, hi, appRR_ok]⟩
    · exact ⟨d / 4 % 4000, by omega, by omega, fun e0 e1 e2 e3 e4 e5 e7 x ds hx hl hi => by simp?! [b1_law, d1, q, hi, appRR_ok]⟩
    · exact ⟨d / 4 % 1, by omega, by omega, fun e0 e1 e2 e3 e4 e5 e7 x ds hx hl hi => by simp?! [b1_law, d1, q, hi, appRR_ok]⟩
  obtain ⟨y1, p1, q1, s1⟩ := key 0 (by omega) (by omega)
  obtain ⟨y2, p2, q2, s2⟩ := key 1 (by omega) (by omega)
  obtain ⟨y3, p3, q3, s3⟩ := key 2 (by omega) (by omega)
  obtain ⟨y4, p4, q4, s4⟩ := key 3 (by omega) (by omega)
  refine ⟨a0, a0 + y1, a0 + y1 + y2, a0 + y1 + y2 + y3, a0 + y1 + y2 + y3 + y4, ⟨by omega, by omega, by omega, by omega, by omega, by omega⟩, fun F e6 e7 e8 e9 W N P h8 hW hN hP => ?_⟩
  have t0 := x_tdy (a := a0) (by omega)
  have t1 := x_tdy (a := a0 + y1) (by omega)
  have t3 := x_tdy (a := a0 + y1 + y2 + y3) (by omega)
  have t4 := x_tdy (a := a0 + y1 + y2 + y3 + y4) (by omega)
  refine ⟨.z (.int m), .z (.int a0), .z (.lst [.int a0, .int (a0 + y1), .int (a0 + y1 + y2), .int (a0 + y1 + y2 + y3), .int (a0 + y1 + y2 + y3 + y4)]), .z (.int 3), (fun d => by simp), ?_⟩
  have lp : loopD (gn 9) b1_law [.int 0, .int 1, .int 2, .int 3] [.z (.arr ns), .z F, .o (.lst W), .o (.lst N), .o (.lst P), .z (.int k), .z (.int m), .z (.int a0), .o (.lst [.int a0]), e9, .u, .u, .u, .u, .u, .u, .u, .u] = .nx [.z (.arr ns), .z F, .o (.lst W), .o (.lst N), .o (.lst P), .z (.int k), .z (.int m), .z (.int a0), .o (.lst [.int a0, .int (a0 + y1), .int (a0 + y1 + y2), .int (a0 + y1 + y2 + y3), .int (a0 + y1 + y2 + y3 + y4)]), .z (.int 3), .u, .u, .u, .u, .u, .u, .u, .u] := by
    rw [loop_cons rfl (s1 _ _ _ _ _ _ _ a0 [.int a0] (by omega) (by simp) rfl), loop_cons rfl (s2 _ _ _ _ _ _ _ (a0 + y1) [.int a0, .int (a0 + y1)] (by omega) (by simp) rfl), loop_cons rfl (s3 _ _ _ _ _ _ _ (a0 + y1 + y2) [.int a0, .int (a0 + y1), .int (a0 + y1 + y2)] (by omega) (by simp) rfl), loop_cons rfl (s4 _ _ _ _ _ _ _ (a0 + y1 + y2 + y3) [.int a0, .int (a0 + y1), .int (a0 + y1 + y2), .int (a0 + y1 + y2 + y3)] (by omega) (by simp) rfl), loop_nil]
    rfl
  have r4 : ∀ ρ : Rho, rng1 (acons (con (.int 4)) anil) ρ = .ok [.int 0, .int 1, .int 2, .int 3] := fun ρ => rfl
  have f4 : ∀ (g : Tg) (s : Rho → SR) (ds : List D) (ρ : Rho), forR (.ok ds) g s ρ = loopD g s ds ρ := fun _ _ _ _ => rfl
  simp?! [b2_law, m1, ← ha0, r4, f4, lp, t0, t1, t3, t4, appRR_ok]
def tvB : Option Pr → D
  | none => .tup [.str "refused", .int 0]
  | some p => .tup [.str "told", pD p]
theorem told_B (x : Option Pr) : toldR (optB x) = .ok (tvB x) := by cases x <;> rfl
theorem x_within {p : Pr} {lo hi : Int} (hp : PrB p) : d__law_within_v2 [pD p, .int lo, .int hi] = .ok (.bl (decide (lvZ p.1 ≤ lo) && decide (hi ≤ lvZ p.2))) := by
  have l1 := x_lvl hp.1
  have l2 := x_lvl hp.2
  by_cases c : lvZ p.1 ≤ lo
  · simp?! [v__law_within_v2, g__law_within_v2, l1, l2, decide_eq_true c, Bool.true_and]
  · simp?! [v__law_within_v2, g__law_within_v2, l1, l2, decide_eq_false c, Bool.false_and]
theorem pt_50' (v : Int) : pt (v * 10 ^ 50) = (v : Rat) := by
  unfold pt
  have e : T 50 = ((10 ^ 50 : Int) : Rat) := T_nat 50
  have n := T_neg 50
  rw [Rat.intCast_mul, ← e]
  rw [show (v : Rat) * T 50 * T (-50) = (v : Rat) * (T 50 * T (-50)) by grind, n]
  grind
theorem lv_in {p : Pr} (hp : PrB p) {v : Int} (h : InP p (v : Rat)) : lvZ p.1 ≤ v * 10 ^ 50 ∧ v * 10 ^ 50 ≤ lvZ p.2 := by
  rw [pt_le, pt_le, pt_lv (by have := hp.1.2; omega), pt_lv (by have := hp.2.2; omega), pt_50']
  exact h
theorem lv_sub {p q : Pr} (hp : PrB p) (hq : PrB q) (h : SubP p q) : lvZ q.1 ≤ lvZ p.1 ∧ lvZ p.2 ≤ lvZ q.2 := by
  have e1 : pt (lvZ p.1) = vl p.1 := pt_lv (by have := hp.1.2; omega)
  have e2 : pt (lvZ p.2) = vl p.2 := pt_lv (by have := hp.2.2; omega)
  have e3 : pt (lvZ q.1) = vl q.1 := pt_lv (by have := hq.1.2; omega)
  have e4 : pt (lvZ q.2) = vl q.2 := pt_lv (by have := hq.2.2; omega)
  rw [pt_le, pt_le, e1, e2, e3, e4]
  exact ⟨h.1, h.2.2⟩
theorem ix3 {x y z j : Int} (h0 : 0 ≤ j) (h1 : j < 3) (hxy : x ≤ y) (hyz : y ≤ z) : ∃ v : Int, ixD (.tup [.int x, .int y, .int z]) (.int j) = some (.int v) ∧ x ≤ v ∧ v ≤ z := by
  have q : j = 0 ∨ j = 1 ∨ j = 2 := by omega
  rcases q with rfl | rfl | rfl
  · exact ⟨x, rfl, by omega, by omega⟩
  · exact ⟨y, rfl, by omega, by omega⟩
  · exact ⟨z, rfl, by omega, by omega⟩
theorem comp_3 {i : Nat} {e : Rho → Res D} {ρ : Rho} {x y z a b c : D} (h1 : e (ρ.set i (.z x)) = .ok a) (h2 : e (ρ.set i (.z y)) = .ok b) (h3 : e (ρ.set i (.z z)) = .ok c) : compD (gn i) yes e ρ [x, y, z] = .ok [a, b, c] :=
  comp_t (show gn i ρ x = some (ρ.set i (.z x)) from rfl) rfl h1 (comp_2 h2 h3)

theorem val_1000 {bx : List Int} (hb : ∀ i ∈ bx, i.natAbs < 2 ^ 15) {f : Fm} (hf : f.Ok) (hd : f.dp ≤ 5) : (f.val bx).natAbs < 10 ^ 1000 := by
  have h := val_bd (e := 15) (by omega) hb f hf
  have h1 : 15 * 2 ^ f.dp ≤ 15 * 2 ^ 5 := Nat.mul_le_mul (Nat.le_refl 15) (Nat.pow_le_pow_right (by omega) hd)
  have h2 : 2 ^ (15 * 2 ^ f.dp) ≤ 2 ^ 480 := Nat.pow_le_pow_right (by omega) h1
  have h3 : 2 ^ 480 ≤ 10 ^ 1000 := by decide +kernel
  exact Nat.lt_of_lt_of_le h (Nat.le_trans h2 h3)
/-- one turn of the loop over the points -/
theorem b4_ev {ns : List Int} {f : Fm} {pN : Pr} {m k a1 a2 a3 b1 b2 b3 c1 c2 c3 : Int} {e2 e3 e7 e8 e9 e10 e12 e13 e15 : En} (hf : f.Ok) (hd : f.dp ≤ 5) (hp : PrB pN) (k0 : 0 ≤ k) (k1 : k < 4)
    (ha : a1 ≤ a2 ∧ a2 ≤ a3) (hb : b1 ≤ b2 ∧ b2 ≤ b3) (hc : c1 ≤ c2 ∧ c2 ≤ c3) (la : -10000 ≤ a1 ∧ a3 ≤ 26000) (lb : -10000 ≤ b1 ∧ b3 ≤ 26000) (lc : -10000 ≤ c1 ∧ c3 ≤ 26000)
    (hin : ∀ x y z : Int, a1 ≤ x → x ≤ a3 → b1 ≤ y → y ≤ b3 → c1 ≤ z → z ≤ c3 → InP pN ((f.val [x, y, z] : Int) : Rat)) :
    ∃ f12 f13 f15 : En, b4_law [.z (.arr ns), .z f.D, e2, e3, .z (.lst [.tup [.int a1, .int a2, .int a3], .tup [.int b1, .int b2, .int b3], .tup [.int c1, .int c2, .int c3]]), .z (.int k), .z (.int m), e7, e8, e9, e10, .z (pD pN), e12, e13, .u, e15, .u, .u] =
      .nx [.z (.arr ns), .z f.D, e2, e3, .z (.lst [.tup [.int a1, .int a2, .int a3], .tup [.int b1, .int b2, .int b3], .tup [.int c1, .int c2, .int c3]]), .z (.int k), .z (.int m), e7, e8, e9, e10, .z (pD pN), f12, f13, .u, f15, .u, .u] := by
  obtain ⟨d, d1, d2, d3⟩ := x_drawn (n := m) (k := k) k0 (by omega)
  obtain ⟨x, x1, x2, x3⟩ := ix3 (j := d / 4 / 1 % 3) (by omega) (by omega) ha.1 ha.2
  obtain ⟨y, y1, y2, y3⟩ := ix3 (j := d / 4 / 3 % 3) (by omega) (by omega) hb.1 hb.2
  obtain ⟨z, z1, z2, z3⟩ := ix3 (j := d / 4 / 9 % 3) (by omega) (by omega) hc.1 hc.2
  have hbx : ∀ i ∈ ([x, y, z] : List Int), i.natAbs < 2 ^ 24 := by
    intro i hi
    simp only [List.mem_cons, List.not_mem_nil, or_false] at hi
    rcases hi with rfl | rfl | rfl <;> omega
  have vv : d__law_value 12 [f.D, .tup [.int x, .int y, .int z]] = .ok (.int (f.val [x, y, z])) := x_lvalue (bx := [x, y, z]) rfl hbx f 12 hf (by omega) (by omega)
  obtain ⟨i1, i2⟩ := lv_in hp (hin x y z x2 x3 y2 y3 z2 z3)
  have ww := x_within (p := pN) (lo := f.val [x, y, z] * 10 ^ 50) (hi := f.val [x, y, z] * 10 ^ 50) hp
  rw [decide_eq_true i1, decide_eq_true i2] at ww
  have vm := mul_t (n := 50) (val_1000 (bx := [x, y, z]) (by
    intro i hi
    simp only [List.mem_cons, List.not_mem_nil, or_false] at hi
    rcases hi with rfl | rfl | rfl <;> omega) hf hd) (by omega)
  have tn : d__law_ten [.int 50] = .ok (.int (10 ^ 50)) := x_lten (n := 50) (by omega)
  have r3 : ∀ ρ : Rho, rng1 (acons (con (.int 3)) anil) ρ = .ok [.int 0, .int 1, .int 2] := fun ρ => rfl
  have l3 := lc_eq (f := rng1 (acons (con (.int 3)) anil)) (i := 14) (t := yes) (e := e3_law) (ρ := [.z (.arr ns), .z f.D, e2, e3, .z (.lst [.tup [.int a1, .int a2, .int a3], .tup [.int b1, .int b2, .int b3], .tup [.int c1, .int c2, .int c3]]), .z (.int k), .z (.int m), e7, e8, e9, e10, .z (pD pN), .z (.int (d / 4)), e13, .u, e15, .u, .u]) (r3 _) (by simp) (comp_3 (a := .int x) (b := .int y) (c := .int z) (by
      show e3_law [.z (.arr ns), .z f.D, e2, e3, .z (.lst [.tup [.int a1, .int a2, .int a3], .tup [.int b1, .int b2, .int b3], .tup [.int c1, .int c2, .int c3]]), .z (.int k), .z (.int m), e7, e8, e9, e10, .z (pD pN), .z (.int (d / 4)), e13, .z (.int 0), e15, .u, .u] = _
      simp?! [e3_law, x1]) (by
      show e3_law [.z (.arr ns), .z f.D, e2, e3, .z (.lst [.tup [.int a1, .int a2, .int a3], .tup [.int b1, .int b2, .int b3], .tup [.int c1, .int c2, .int c3]]), .z (.int k), .z (.int m), e7, e8, e9, e10, .z (pD pN), .z (.int (d / 4)), e13, .z (.int 1), e15, .u, .u] = _
      simp?! [e3_law, y1]) (by
      show e3_law [.z (.arr ns), .z f.D, e2, e3, .z (.lst [.tup [.int a1, .int a2, .int a3], .tup [.int b1, .int b2, .int b3], .tup [.int c1, .int c2, .int c3]]), .z (.int k), .z (.int m), e7, e8, e9, e10, .z (pD pN), .z (.int (d / 4)), e13, .z (.int 2), e15, .u, .u] = _
      simp?! [e3_law, z1]))
  refine ⟨.z (.int (d / 4)), .z (.tup [.int x, .int y, .int z]), .z (.int (f.val [x, y, z] * 10 ^ 50)), ?_⟩
  have tp : tupD [.lst [.int x, .int y, .int z]] = some (.tup [.int x, .int y, .int z]) := rfl
  simp?! [b4_law, d1, l3, tp, vv, tn, vm, ww, Bool.and_self]
theorem ti_b {a : Int} (h : -10000 ≤ a) (h2 : a ≤ 26000) : NumB (tidyZ a 0).1 (tidyZ a 0).2 := num_b (tidy_ok (by omega) (by omega) (by omega))
theorem ti_vl (a : Int) : vl (tidyZ a 0) = (a : Rat) := by rw [tidy_vl, vl_int]
theorem cast_le {a b : Int} (h : a ≤ b) : (a : Rat) ≤ (b : Rat) := Rat.intCast_le_intCast.mpr h
theorem x_repr {f : Fm} (hf : f.Ok) (hd : f.dp ≤ 5) : reprD [f.D] = some (.str (pyO f.D).shown) ∧ (pyO f.D).shown.length ≤ 900 := by
  have p := fm_plain f 60 (by omega)
  have s := sh_ok f hf
  have u := sh_hi f hf
  have w : 2 ^ f.dp ≤ 2 ^ 5 := Nat.pow_le_pow_right (by omega) hd
  have l : (pyO f.D).shown.length ≤ 900 := by
    have u : (pyO f.D).shown.length + 13 ≤ 26 * 2 ^ f.dp := u
    omega
  refine ⟨?_, l⟩
  have key : ∀ d : D, (∃ ds, d = .tup ds) → DN.plain 60 d = true → (pyO d).showable = true → (pyO d).shown.length ≤ 900 → reprD [d] = some (.str (pyO d).shown) := by
    intro d ⟨ds, e⟩ h1 h2 h3
    subst e
    show (if DN.plain 60 (.tup ds) && (pyO (.tup ds)).showable && decide ((pyO (.tup ds)).shown.length ≤ sizeLine) then some (D.str (pyO (.tup ds)).shown) else none) = _
    rw [h1, h2, decide_eq_true (by rw [sizeLine_eq]; omega)]
    rfl
  exact key f.D (by cases f <;> exact ⟨_, rfl⟩) p s l
theorem tail_ev {ns : List Int} {f : Fm} {m5 : Int} {dW dN dP dT dI : D} {w7 w8 w9 o12 o13 o15 : En} (hf : f.Ok) (fd : f.dp ≤ 5) (k0 : 0 ≤ m5) (r4 : ∀ ρ : Rho, rng1 (acons (con (.int 4)) anil) ρ = .ok [.int 0, .int 1, .int 2, .int 3])
    (lp4 : loopD (gn 5) b4_law [.int 0, .int 1, .int 2, .int 3] [.z (.arr ns), .z f.D, .z dW, .z dN, .z dP, .z (.int 2), .z (.int m5), w7, w8, w9, .z dT, .z dI, .u, .u, .u, .u, .u, .u] = .nx [.z (.arr ns), .z f.D, .z dW, .z dN, .z dP, .z (.int 3), .z (.int m5), w7, w8, w9, .z dT, .z dI, o12, o13, .u, o15, .u, .u]) :
    finR (t12_law [.z (.arr ns), .z f.D, .z dW, .z dN, .z dP, .z (.int 2), .z (.int m5), w7, w8, w9, .z dT, .z dI, .u, .u, .u, .u, .u, .u]) = .ok (.bl true) := by
  obtain ⟨q0, h0⟩ : ∃ q, q = m5 % 10 := ⟨_, rfl⟩
  obtain ⟨q1, h1⟩ : ∃ q, q = m5 / 10 % 10 := ⟨_, rfl⟩
  obtain ⟨q2, h2⟩ : ∃ q, q = m5 / 100 % 10 := ⟨_, rfl⟩
  have t0 := x_tdy (a := q0) (by omega)
  have t1 := x_tdy (a := q1) (by omega)
  have t2 := x_tdy (a := q2) (by omega)
  have it := its_T' (f := mkT (acons (var 6) (acons (bop divD (var 6) (con (.int 10))) (acons (bop divD (var 6) (con (.int 100))) anil)))) (ds := [.int m5, .int (m5 / 10), .int (m5 / 100)]) (ρ := [.z (.arr ns), .z f.D, .z dW, .z dN, .z dP, .z (.int 3), .z (.int m5), w7, w8, w9, .z dT, .z dI, o12, o13, .u, o15, .u, .u]) (by simp?! [])
  have l3 := lc_eq (i := 14) (t := yes) (e := e5_law) it (by simp) (comp_3 (a := pD (tidyZ q0 0, tidyZ q0 0)) (b := pD (tidyZ q1 0, tidyZ q1 0)) (c := pD (tidyZ q2 0, tidyZ q2 0)) (by
      show e5_law [.z (.arr ns), .z f.D, .z dW, .z dN, .z dP, .z (.int 3), .z (.int m5), w7, w8, w9, .z dT, .z dI, o12, o13, .z (.int m5), o15, .u, .u] = _
      simp?! [e5_law, ← h0, t0]) (by
      show e5_law [.z (.arr ns), .z f.D, .z dW, .z dN, .z dP, .z (.int 3), .z (.int m5), w7, w8, w9, .z dT, .z dI, o12, o13, .z (.int (m5 / 10)), o15, .u, .u] = _
      simp?! [e5_law, ← h1, t1]) (by
      show e5_law [.z (.arr ns), .z f.D, .z dW, .z dN, .z dP, .z (.int 3), .z (.int m5), w7, w8, w9, .z dT, .z dI, o12, o13, .z (.int (m5 / 100)), o15, .u, .u] = _
      simp?! [e5_law, ← h2, t2]))
  have bS : ∀ p ∈ ([(tidyZ q0 0, tidyZ q0 0), (tidyZ q1 0, tidyZ q1 0), (tidyZ q2 0, tidyZ q2 0)] : List Pr), PrB p := by
    intro p hp
    simp only [List.mem_cons, List.not_mem_nil, or_false] at hp
    rcases hp with rfl | rfl | rfl
    · exact ⟨ti_b (by omega) (by omega), ti_b (by omega) (by omega)⟩
    · exact ⟨ti_b (by omega) (by omega), ti_b (by omega) (by omega)⟩
    · exact ⟨ti_b (by omega) (by omega), ti_b (by omega) (by omega)⟩
  have sy : ∀ q : Int, 0 ≤ q → q < 10 → SubP (tidyZ q 0, tidyZ q 0) (symP 1) := fun q c1 c2 => by
    obtain ⟨a, b⟩ := sym_vl 1
    unfold SubP
    rw [a, b, show T ((1 : Nat) : Int) = 10 from T_one]
    simp only [ti_vl]
    have u1 : ((-10 : Int) : Rat) ≤ (q : Rat) := cast_le (by omega)
    have u2 : (q : Rat) ≤ ((10 : Int) : Rat) := cast_le (by omega)
    exact ⟨u1, Rat.le_refl, u2⟩
  obtain ⟨p, p1, _⟩ := bd_sym (rs := [(tidyZ q0 0, tidyZ q0 0), (tidyZ q1 0, tidyZ q1 0), (tidyZ q2 0, tidyZ q2 0)]) rfl (by
    intro p hp
    simp only [List.mem_cons, List.not_mem_nil, or_false] at hp
    rcases hp with rfl | rfl | rfl
    · exact sy _ (by omega) (by omega)
    · exact sy _ (by omega) (by omega)
    · exact sy _ (by omega) (by omega)) 4 f (by omega) hf (by omega)
  have hp := bd_b bS f hf p p1
  have xb : d_bounds 12 [f.D, .tup [pD (tidyZ q0 0, tidyZ q0 0), pD (tidyZ q1 0, tidyZ q1 0), pD (tidyZ q2 0, tidyZ q2 0)]] = .ok (pD p) := (x_bounds (rs := [(tidyZ q0 0, tidyZ q0 0), (tidyZ q1 0, tidyZ q1 0), (tidyZ q2 0, tidyZ q2 0)]) rfl bS f 12 hf (by omega)).trans (by rw [p1]; rfl)
  have hbx : ∀ i ∈ ([q0, q1, q2] : List Int), i.natAbs < 2 ^ 15 := by
    intro i hi
    simp only [List.mem_cons, List.not_mem_nil, or_false] at hi
    rcases hi with rfl | rfl | rfl <;> omega
  have vv : d__law_value 12 [f.D, .tup [.int q0, .int q1, .int q2]] = .ok (.int (f.val [q0, q1, q2])) := x_lvalue (bx := [q0, q1, q2]) rfl (fun i hi => Nat.lt_trans (hbx i hi) (by decide)) f 12 hf (by omega) (by omega)
  have vm := mul_t (n := 50) (val_1000 hbx hf fd) (by omega)
  have tn : d__law_ten [.int 50] = .ok (.int (10 ^ 50)) := x_lten (n := 50) (by omega)
  have hin : InP p ((f.val [q0, q1, q2] : Int) : Rat) := by
    rw [← vr_val]
    refine bd_in (fun k p hk => ?_) f p p1
    have one : ∀ {x : Int}, InP (tidyZ x 0, tidyZ x 0) (x : Rat) := fun {x} => by
      unfold InP
      simp only [ti_vl]
      exact ⟨Rat.le_refl, Rat.le_refl⟩
    match k, hk with
    | 0, e => cases e; exact one
    | 1, e => cases e; exact one
    | 2, e => cases e; exact one
  obtain ⟨i1, i2⟩ := lv_in hp hin
  have ww := x_within (p := p) (lo := f.val [q0, q1, q2] * 10 ^ 50) (hi := f.val [q0, q1, q2] * 10 ^ 50) hp
  rw [decide_eq_true i1, decide_eq_true i2] at ww
  have tp : ∀ x y z : D, tupD [.lst [x, y, z]] = some (.tup [x, y, z]) := fun _ _ _ => rfl
  obtain ⟨rp, rl⟩ := x_repr hf fd
  have le : lenD [.str (pyO f.D).shown] = some (.int ((pyO f.D).shown.length : Nat)) := len_s (by omega)
  have key : finR (t12_law [.z (.arr ns), .z f.D, .z dW, .z dN, .z dP, .z (.int 2), .z (.int m5), w7, w8, w9, .z dT, .z dI, .u, .u, .u, .u, .u, .u]) = finR (t17_law [.z (.arr ns), .z f.D, .z dW, .z dN, .z dP, .z (.int 3), .z (.int m5), w7, w8, w9, .z dT, .z dI, o12, .z (.tup [.int q0, .int q1, .int q2]), .u, .z (.int (f.val [q0, q1, q2] * 10 ^ 50)), .z (.tup [pD (tidyZ q0 0, tidyZ q0 0), pD (tidyZ q1 0, tidyZ q1 0), pD (tidyZ q2 0, tidyZ q2 0)]), .z (pD p)]) := by
    simp?! [t12_law, t13_law, t14_law, t15_law, t16_law, r4, forR_ok, lp4, l3, tp, ← h0, ← h1, ← h2, xb, vv, tn, vm]
  rw [key]
  by_cases c : f.lv ≤ 3
  · obtain ⟨s, s1, _, _⟩ := bd_one (rs := [(tidyZ q0 0, tidyZ q0 0), (tidyZ q1 0, tidyZ q1 0), (tidyZ q2 0, tidyZ q2 0)]) (bx := [q0, q1, q2]) (fun k hk => by
      match k, hk with
      | 0, _ => exact ⟨_, rfl, ti_vl q0, by show q0.natAbs ≤ 9; omega⟩
      | 1, _ => exact ⟨_, rfl, ti_vl q1, by show q1.natAbs ≤ 9; omega⟩
      | 2, _ => exact ⟨_, rfl, ti_vl q2, by show q2.natAbs ≤ 9; omega⟩) f hf c
    have ep : p = (s, s) := Option.some.inj (p1.symm.trans s1)
    subst ep
    have eq := eq_same (d := numD s) rfl
    by_cases g : (60 : Int) < ((pyO f.D).shown.length : Nat)
    · simp?! [t17_law, ww, rp, le, decide_eq_true g, Bool.and_self]
    · simp?! [t17_law, ww, rp, le, decide_eq_false g, Bool.and_self, eq]
  · have lo := sh_lo f hf
    have g : (60 : Int) < ((pyO f.D).shown.length : Nat) := by
      have lo : 23 * f.lv ≤ (pyO f.D).shown.length + 12 := lo
      omega
    simp?! [t17_law, ww, rp, le, decide_eq_true g, Bool.and_self]
theorem law_true (ns : List Int) (h : ns.length ≤ 63) (hz : ∀ z ∈ ns, Builtin.Int.intBits z ≤ 1048576) : d_law [.arr ns] = .ok (.bl true) := by
  obtain ⟨m0, e0, g0, g1⟩ := x_mixed (ns := ns) (k := 0) (by omega) (by omega)
  obtain ⟨m1, e1, h0, h1⟩ := x_mixed (ns := ns) (k := 1) (by omega) (by omega)
  obtain ⟨m5, e5, k0, k1⟩ := x_mixed (ns := ns) (k := 5) (by omega) (by omega)
  obtain ⟨f, f1, f2, f3⟩ := x_lformula 12 m0 (1 + m1 % 5) g0 (by omega) (by omega)
  have fd : f.dp ≤ 5 := by omega
  obtain ⟨a0, a1, a2, a3, a4, fa, sa⟩ := b2_ev (ns := ns) (k := 0) (by omega) (by omega)
  obtain ⟨b0, b1, b2, b3, b4, fb, sb⟩ := b2_ev (ns := ns) (k := 1) (by omega) (by omega)
  obtain ⟨c0, c1, c2, c3, c4, fc, sc⟩ := b2_ev (ns := ns) (k := 2) (by omega) (by omega)
  obtain ⟨la, pa1, pa2, pa3, pa4, ua⟩ := fa
  obtain ⟨lb, pb1, pb2, pb3, pb4, ub⟩ := fb
  obtain ⟨lc, pc1, pc2, pc3, pc4, uc⟩ := fc
  obtain ⟨u6, u7, u8, u9, uu, s1⟩ := sa f.D .u .u .u .u [] [] [] (fun d => by simp) (by simp) (by simp) (by simp)
  obtain ⟨v6, v7, v8, v9, vv, s2⟩ := sb f.D u6 u7 u8 u9 [pD (tidyZ a0 0, tidyZ a4 0)] [pD (tidyZ a1 0, tidyZ a3 0)] [.tup [.int a1, .int a2, .int a3]] uu (by simp) (by simp) (by simp)
  obtain ⟨w6, w7, w8, w9, ww, s3⟩ := sc f.D v6 v7 v8 v9 [pD (tidyZ a0 0, tidyZ a4 0), pD (tidyZ b0 0, tidyZ b4 0)] [pD (tidyZ a1 0, tidyZ a3 0), pD (tidyZ b1 0, tidyZ b3 0)] [.tup [.int a1, .int a2, .int a3], .tup [.int b1, .int b2, .int b3]] vv (by simp) (by simp) (by simp)
  have r3 : ∀ ρ : Rho, rng1 (acons (con (.int 3)) anil) ρ = .ok [.int 0, .int 1, .int 2] := fun ρ => rfl
  have r4 : ∀ ρ : Rho, rng1 (acons (con (.int 4)) anil) ρ = .ok [.int 0, .int 1, .int 2, .int 3] := fun ρ => rfl
  have lp : loopD (gn 5) b2_law [.int 0, .int 1, .int 2] [.z (.arr ns), .z f.D, .o (.lst []), .o (.lst []), .o (.lst []), .u, .u, .u, .u, .u, .u, .u, .u, .u, .u, .u, .u, .u] =
      .nx [.z (.arr ns), .z f.D, .o (.lst [pD (tidyZ a0 0, tidyZ a4 0), pD (tidyZ b0 0, tidyZ b4 0), pD (tidyZ c0 0, tidyZ c4 0)]), .o (.lst [pD (tidyZ a1 0, tidyZ a3 0), pD (tidyZ b1 0, tidyZ b3 0), pD (tidyZ c1 0, tidyZ c3 0)]), .o (.lst [.tup [.int a1, .int a2, .int a3], .tup [.int b1, .int b2, .int b3], .tup [.int c1, .int c2, .int c3]]), .z (.int 2), w6, w7, w8, w9, .u, .u, .u, .u, .u, .u, .u, .u] := by
    rw [loop_cons rfl s1, loop_cons rfl s2, loop_cons rfl s3, loop_nil]
    rfl
  have bW : ∀ p ∈ ([(tidyZ a0 0, tidyZ a4 0), (tidyZ b0 0, tidyZ b4 0), (tidyZ c0 0, tidyZ c4 0)] : List Pr), PrB p := by
    intro p hp
    simp only [List.mem_cons, List.not_mem_nil, or_false] at hp
    rcases hp with rfl | rfl | rfl
    · exact ⟨ti_b (by omega) (by omega), ti_b (by omega) (by omega)⟩
    · exact ⟨ti_b (by omega) (by omega), ti_b (by omega) (by omega)⟩
    · exact ⟨ti_b (by omega) (by omega), ti_b (by omega) (by omega)⟩
  have bN : ∀ p ∈ ([(tidyZ a1 0, tidyZ a3 0), (tidyZ b1 0, tidyZ b3 0), (tidyZ c1 0, tidyZ c3 0)] : List Pr), PrB p := by
    intro p hp
    simp only [List.mem_cons, List.not_mem_nil, or_false] at hp
    rcases hp with rfl | rfl | rfl
    · exact ⟨ti_b (by omega) (by omega), ti_b (by omega) (by omega)⟩
    · exact ⟨ti_b (by omega) (by omega), ti_b (by omega) (by omega)⟩
    · exact ⟨ti_b (by omega) (by omega), ti_b (by omega) (by omega)⟩
  have sub1 : ∀ {x y z w : Int}, x ≤ y → y ≤ z → z ≤ w → SubP (tidyZ y 0, tidyZ z 0) (tidyZ x 0, tidyZ w 0) := fun {x y z w} q1 q2 q3 => by
    unfold SubP
    simp only [ti_vl]
    exact ⟨cast_le q1, cast_le q2, cast_le q3⟩
  have hsub : ∀ (k : Nat) (p' : Pr), ([(tidyZ a0 0, tidyZ a4 0), (tidyZ b0 0, tidyZ b4 0), (tidyZ c0 0, tidyZ c4 0)] : List Pr)[k]? = some p' → ∃ p, ([(tidyZ a1 0, tidyZ a3 0), (tidyZ b1 0, tidyZ b3 0), (tidyZ c1 0, tidyZ c3 0)] : List Pr)[k]? = some p ∧ SubP p p' := by
    intro k p' e
    match k, e with
    | 0, e => cases e; exact ⟨_, rfl, sub1 (by omega) (by omega) (by omega)⟩
    | 1, e => cases e; exact ⟨_, rfl, sub1 (by omega) (by omega) (by omega)⟩
    | 2, e => cases e; exact ⟨_, rfl, sub1 (by omega) (by omega) (by omega)⟩
  have hin : ∀ pN, f.bd [(tidyZ a1 0, tidyZ a3 0), (tidyZ b1 0, tidyZ b3 0), (tidyZ c1 0, tidyZ c3 0)] = some pN → ∀ x y z : Int, a1 ≤ x → x ≤ a3 → b1 ≤ y → y ≤ b3 → c1 ≤ z → z ≤ c3 → InP pN ((f.val [x, y, z] : Int) : Rat) := by
    intro pN e x y z x1 x2 y1 y2 z1 z2
    rw [← vr_val]
    refine bd_in (fun k p hk => ?_) f pN e
    have one : ∀ {x y z : Int}, y ≤ x → x ≤ z → InP (tidyZ y 0, tidyZ z 0) (x : Rat) := fun {x y z} q1 q2 => by
      unfold InP
      simp only [ti_vl]
      exact ⟨cast_le q1, cast_le q2⟩
    match k, hk with
    | 0, e => cases e; exact one x1 x2
    | 1, e => cases e; exact one y1 y2
    | 2, e => cases e; exact one z1 z2
  have xW : d_bounds 12 [f.D, .tup [pD (tidyZ a0 0, tidyZ a4 0), pD (tidyZ b0 0, tidyZ b4 0), pD (tidyZ c0 0, tidyZ c4 0)]] = _ := x_bounds (rs := [(tidyZ a0 0, tidyZ a4 0), (tidyZ b0 0, tidyZ b4 0), (tidyZ c0 0, tidyZ c4 0)]) rfl bW f 12 f2 (by omega)
  have xN : d_bounds 12 [f.D, .tup [pD (tidyZ a1 0, tidyZ a3 0), pD (tidyZ b1 0, tidyZ b3 0), pD (tidyZ c1 0, tidyZ c3 0)]] = _ := x_bounds (rs := [(tidyZ a1 0, tidyZ a3 0), (tidyZ b1 0, tidyZ b3 0), (tidyZ c1 0, tidyZ c3 0)]) rfl bN f 12 f2 (by omega)
  have mono := bd_mono hsub f
  have bbW := bd_b bW f f2
  have bbN := bd_b bN f f2
  have teW := told_B (f.bd [(tidyZ a0 0, tidyZ a4 0), (tidyZ b0 0, tidyZ b4 0), (tidyZ c0 0, tidyZ c4 0)])
  have teN := told_B (f.bd [(tidyZ a1 0, tidyZ a3 0), (tidyZ b1 0, tidyZ b3 0), (tidyZ c1 0, tidyZ c3 0)])
  generalize f.bd [(tidyZ a0 0, tidyZ a4 0), (tidyZ b0 0, tidyZ b4 0), (tidyZ c0 0, tidyZ c4 0)] = zW at *
  generalize f.bd [(tidyZ a1 0, tidyZ a3 0), (tidyZ b1 0, tidyZ b3 0), (tidyZ c1 0, tidyZ c3 0)] = zN at *
  have tp : ∀ x y z : D, tupD [.lst [x, y, z]] = some (.tup [x, y, z]) := fun _ _ _ => rfl
  have key : d_law [.arr ns] = finR (t7_law [.z (.arr ns), .z f.D, .z (.lst [pD (tidyZ a0 0, tidyZ a4 0), pD (tidyZ b0 0, tidyZ b4 0), pD (tidyZ c0 0, tidyZ c4 0)]), .z (.lst [pD (tidyZ a1 0, tidyZ a3 0), pD (tidyZ b1 0, tidyZ b3 0), pD (tidyZ c1 0, tidyZ c3 0)]), .z (.lst [.tup [.int a1, .int a2, .int a3], .tup [.int b1, .int b2, .int b3], .tup [.int c1, .int c2, .int c3]]), .z (.int 2), w6, w7, w8, w9, .z (tvB zW), .z (tvB zN), .u, .u, .u, .u, .u, .u]) := by
    simp?! [v_law, g_law, t1_law, t2_law, t3_law, t4_law, t5_law, t6_law, e0, e1, f1, r3, forR_ok, lp, tp, told_def, xW, xN, teW, teN]
  rw [key]
  cases zW with
  | none =>
    have q := eq_same (d := .tup [.str "refused", .int 0]) pl_ref
    simp?! [t7_law, tvB, beq_self_eq_true, q]
  | some pW =>
    obtain ⟨pN, eN, sN⟩ := mono pW rfl
    subst eN
    have hpW := bbW pW rfl
    have hpN := bbN pN rfl
    have rt : (Str.ofString "told" == Str.ofString "refused") = false := by decide +kernel
    obtain ⟨i1, i2⟩ := lv_sub hpN hpW sN
    have wt := x_within (p := pW) (lo := lvZ pN.1) (hi := lvZ pN.2) hpW
    rw [decide_eq_true i1, decide_eq_true i2] at wt
    have l1 := x_lvl hpN.1
    have l2 := x_lvl hpN.2
    have hin := hin pN rfl
    have tv1 : tvB (some pW) = .tup [.str "told", pD pW] := rfl
    have tv2 : tvB (some pN) = .tup [.str "told", pD pN] := rfl
    rw [tv1, tv2]
    generalize eW : (D.lst [pD (tidyZ a0 0, tidyZ a4 0), pD (tidyZ b0 0, tidyZ b4 0), pD (tidyZ c0 0, tidyZ c4 0)]) = dW
    generalize eN : (D.lst [pD (tidyZ a1 0, tidyZ a3 0), pD (tidyZ b1 0, tidyZ b3 0), pD (tidyZ c1 0, tidyZ c3 0)]) = dN
    have key2 : finR (t7_law [.z (.arr ns), .z f.D, .z dW, .z dN, .z (.lst [.tup [.int a1, .int a2, .int a3], .tup [.int b1, .int b2, .int b3], .tup [.int c1, .int c2, .int c3]]), .z (.int 2), w6, w7, w8, w9, .z (.tup [.str "told", pD pW]), .z (.tup [.str "told", pD pN]), .u, .u, .u, .u, .u, .u]) =
        finR (t12_law [.z (.arr ns), .z f.D, .z dW, .z dN, .z (.lst [.tup [.int a1, .int a2, .int a3], .tup [.int b1, .int b2, .int b3], .tup [.int c1, .int c2, .int c3]]), .z (.int 2), .z (.int m5), w7, w8, w9, .z (.tup [.str "told", pD pW]), .z (pD pN), .u, .u, .u, .u, .u, .u]) := by
      simp?! [t7_law, t8_law, t9_law, t10_law, t11_law, rt, l1, l2, wt, e5, Bool.and_self]
    rw [key2]
    have turn : ∀ (k : Int) (e5 e12 e13 e15 : En), 0 ≤ k → k < 4 → ∃ f12 f13 f15 : En, b4_law [.z (.arr ns), .z f.D, .z dW, .z dN, .z (.lst [.tup [.int a1, .int a2, .int a3], .tup [.int b1, .int b2, .int b3], .tup [.int c1, .int c2, .int c3]]), .z (.int k), .z (.int m5), w7, w8, w9, .z (.tup [.str "told", pD pW]), .z (pD pN), e12, e13, .u, e15, .u, .u] =
        .nx [.z (.arr ns), .z f.D, .z dW, .z dN, .z (.lst [.tup [.int a1, .int a2, .int a3], .tup [.int b1, .int b2, .int b3], .tup [.int c1, .int c2, .int c3]]), .z (.int k), .z (.int m5), w7, w8, w9, .z (.tup [.str "told", pD pW]), .z (pD pN), f12, f13, .u, f15, .u, .u] := fun k e5 e12 e13 e15 k0 k1 =>
      b4_ev f2 fd hpN k0 k1 ⟨by omega, by omega⟩ ⟨by omega, by omega⟩ ⟨by omega, by omega⟩ ⟨by omega, by omega⟩ ⟨by omega, by omega⟩ ⟨by omega, by omega⟩ hin
    obtain ⟨x12, x13, x15, n1⟩ := turn 0 (.z (.int 2)) .u .u .u (by omega) (by omega)
    obtain ⟨y12, y13, y15, n2⟩ := turn 1 (.z (.int 0)) x12 x13 x15 (by omega) (by omega)
    obtain ⟨z12, z13, z15, n3⟩ := turn 2 (.z (.int 1)) y12 y13 y15 (by omega) (by omega)
    obtain ⟨o12, o13, o15, n4⟩ := turn 3 (.z (.int 2)) z12 z13 z15 (by omega) (by omega)
    have lp4 : loopD (gn 5) b4_law [.int 0, .int 1, .int 2, .int 3] [.z (.arr ns), .z f.D, .z dW, .z dN, .z (.lst [.tup [.int a1, .int a2, .int a3], .tup [.int b1, .int b2, .int b3], .tup [.int c1, .int c2, .int c3]]), .z (.int 2), .z (.int m5), w7, w8, w9, .z (.tup [.str "told", pD pW]), .z (pD pN), .u, .u, .u, .u, .u, .u] =
        .nx [.z (.arr ns), .z f.D, .z dW, .z dN, .z (.lst [.tup [.int a1, .int a2, .int a3], .tup [.int b1, .int b2, .int b3], .tup [.int c1, .int c2, .int c3]]), .z (.int 3), .z (.int m5), w7, w8, w9, .z (.tup [.str "told", pD pW]), .z (pD pN), o12, o13, .u, o15, .u, .u] := by
      rw [loop_cons rfl n1, loop_cons rfl n2, loop_cons rfl n3, loop_cons rfl n4, loop_nil]
    generalize eP : (D.lst [.tup [.int a1, .int a2, .int a3], .tup [.int b1, .int b2, .int b3], .tup [.int c1, .int c2, .int c3]]) = dP at *
    exact tail_ev f2 fd k0 r4 lp4
def dd_ten : He.DefD := ⟨("ten", none), "ten", "ten", defArgs s_ten, defBody s_ten, defScope s_ten, [], []⟩
def dd_figures_of : He.DefD := ⟨("figures_of", none), "figures_of", "figures_of", defArgs s_figures_of, defBody s_figures_of, defScope s_figures_of, [], []⟩
def dd_height : He.DefD := ⟨("height", none), "height", "height", defArgs s_height, defBody s_height, defScope s_height, [], []⟩
def dd_taken : He.DefD := ⟨("taken", none), "taken", "taken", defArgs s_taken, defBody s_taken, defScope s_taken, [], []⟩
def dd_by_size : He.DefD := ⟨("by_size", none), "by_size", "by_size", defArgs s_by_size, defBody s_by_size, defScope s_by_size, [], []⟩
def dd_fitted : He.DefD := ⟨("fitted", none), "fitted", "fitted", defArgs s_fitted, defBody s_fitted, defScope s_fitted, [], []⟩
def dd_power_for : He.DefD := ⟨("power_for", none), "power_for", "power_for", defArgs s_power_for, defBody s_power_for, defScope s_power_for, [], []⟩
def dd_exact : He.DefD := ⟨("exact", none), "exact", "exact", defArgs s_exact, defBody s_exact, defScope s_exact, [], []⟩
def dd_level : He.DefD := ⟨("level", none), "level", "level", defArgs s_level, defBody s_level, defScope s_level, [], []⟩
def dd_of_power : He.DefD := ⟨("of_power", none), "of_power", "of_power", defArgs s_of_power, defBody s_of_power, defScope s_of_power, [], []⟩
def dd_plus : He.DefD := ⟨("plus", none), "plus", "plus", defArgs s_plus, defBody s_plus, defScope s_plus, [], []⟩
def dd_turned : He.DefD := ⟨("turned", none), "turned", "turned", defArgs s_turned, defBody s_turned, defScope s_turned, [], []⟩
def dd_minus : He.DefD := ⟨("minus", none), "minus", "minus", defArgs s_minus, defBody s_minus, defScope s_minus, [], []⟩
def dd_less : He.DefD := ⟨("less", none), "less", "less", defArgs s_less, defBody s_less, defScope s_less, [], []⟩
def dd_plus_of : He.DefD := ⟨("plus_of", none), "plus_of", "plus_of", defArgs s_plus_of, defBody s_plus_of, defScope s_plus_of, [], []⟩
def dd_minus_of : He.DefD := ⟨("minus_of", none), "minus_of", "minus_of", defArgs s_minus_of, defBody s_minus_of, defScope s_minus_of, [], []⟩
def dd_is_less_product : He.DefD := ⟨("is_less_product", none), "is_less_product", "is_less_product", defArgs s_is_less_product, defBody s_is_less_product, defScope s_is_less_product, [], []⟩
def dd_product : He.DefD := ⟨("product", none), "product", "product", defArgs s_product, defBody s_product, defScope s_product, [], []⟩
def dd_times_of : He.DefD := ⟨("times_of", none), "times_of", "times_of", defArgs s_times_of, defBody s_times_of, defScope s_times_of, [], []⟩
def dd_bounds : He.DefD := ⟨("bounds", none), "bounds", "bounds", defArgs s_bounds, defBody s_bounds, defScope s_bounds, [], []⟩
def dd__law_cell_at : He.DefD := ⟨("_law_cell_at", none), "_law_cell_at", "_law_cell_at", defArgs s__law_cell_at, defBody s__law_cell_at, defScope s__law_cell_at, [], []⟩
def dd__law_mixed : He.DefD := ⟨("_law_mixed", none), "_law_mixed", "_law_mixed", defArgs s__law_mixed, defBody s__law_mixed, defScope s__law_mixed, [], []⟩
def dd__law_drawn : He.DefD := ⟨("_law_drawn", none), "_law_drawn", "_law_drawn", defArgs s__law_drawn, defBody s__law_drawn, defScope s__law_drawn, [], []⟩
def dd__law_ten : He.DefD := ⟨("_law_ten", none), "_law_ten", "_law_ten", defArgs s__law_ten, defBody s__law_ten, defScope s__law_ten, [], []⟩
def dd__law_tidy : He.DefD := ⟨("_law_tidy", none), "_law_tidy", "_law_tidy", defArgs s__law_tidy, defBody s__law_tidy, defScope s__law_tidy, [], []⟩
def dd__law_formula : He.DefD := ⟨("_law_formula", none), "_law_formula", "_law_formula", defArgs s__law_formula, defBody s__law_formula, defScope s__law_formula, [], []⟩
def dd__law_value : He.DefD := ⟨("_law_value", none), "_law_value", "_law_value", defArgs s__law_value, defBody s__law_value, defScope s__law_value, [], []⟩
def dd__law_told : He.DefD := ⟨("_law_told", none), "_law_told", "_law_told", defArgs s__law_told, defBody s__law_told, defScope s__law_told, [], []⟩
def dd__law_level : He.DefD := ⟨("_law_level", none), "_law_level", "_law_level", defArgs s__law_level, defBody s__law_level, defScope s__law_level, [], []⟩
def dd__law_within : He.DefD := ⟨("_law_within", none), "_law_within", "_law_within", defArgs s__law_within, defBody s__law_within, defScope s__law_within, [], []⟩
def dd_law : He.DefD := ⟨("law", none), "law", "law", defArgs s_law, defBody s_law, defScope s_law, [], []⟩
def fn : List He.DefD := [dd_ten, dd_figures_of, dd_height, dd_taken, dd_by_size, dd_fitted, dd_power_for, dd_exact, dd_level, dd_of_power, dd_plus, dd_turned, dd_minus, dd_less, dd_plus_of, dd_minus_of, dd_is_less_product, dd_product, dd_times_of, dd_bounds, dd__law_cell_at, dd__law_mixed, dd__law_drawn, dd__law_ten, dd__law_tidy, dd__law_formula, dd__law_value, dd__law_told, dd__law_level, dd__law_within, dd_law]
def fa : List He.Fa := [.glo "ten", .glo "figures_of", .glo "height", .glo "taken", .glo "by_size", .glo "fitted", .glo "power_for", .glo "exact", .glo "level", .glo "of_power", .glo "plus", .glo "turned", .glo "minus", .glo "less", .glo "plus_of", .glo "minus_of", .glo "is_less_product", .glo "product", .glo "times_of", .glo "bounds", .glo "_law_cell_at", .glo "_law_mixed", .glo "_law_drawn", .glo "_law_ten", .glo "_law_tidy", .glo "_law_formula", .glo "_law_value", .glo "_law_told", .glo "_law_level", .glo "_law_within", .glo "law", .free "int", .free "abs", .free "str", .free "len", .free "max", .free "min", .free "range", .free "tuple", .free "repr", .int "HIGHEST" (40), .int "MOST" (8), .glo "OF_TWO", .glo "TooGreat", .exc "TooGreat", .glo "NoText", .glo "NoDeed", .glo "NoKey", .glo "NoRoom", .glo "PileError", .free "isinstance", .free "ValueError"]
def ts : List He.Tab := [((fun K => He.ga K "OF_TWO"), ["plus", "minus", "times"])]
def tf : List He.Defn := [("law", none)]
def ex (K : PySem.W.Frag) : Bool := (He.valsB K (He.ga K "OF_TWO") [("plus", He.Dv.glo "plus_of"), ("minus", He.Dv.glo "minus_of"), ("times", He.Dv.glo "times_of")] && (toldB K && (huB K "law" && true)))
abbrev R : PySem.W.OpenRow := PySem.W.OpenLaw.row PySem.Challenge.rw_pocketpile_k55_whole_bounds_hold
abbrev hk : PySem.W.Hook := He.hookX 5 fa fn ts tf ex
def ob (s : PySem.W.SharedT) : He.AlX := He.obsX 5 fa fn ts tf ex (HandSHeadRun.getT s)
theorem ob_eq (s : PySem.W.SharedT) : ob s = hk.obs s.abs := He.obsX_eq (HandSHeadRun.getT_eq s)
def names : List PySem.Str := (["PileError", "TooGreat", "NoText", "NoDeed", "NoKey", "NoRoom", "MOST", "HIGHEST", "ten", "figures_of", "height", "taken", "by_size", "fitted", "power_for", "exact", "level", "of_power", "plus", "turned"] : List PySem.Str) ++ (["minus", "less", "plus_of", "minus_of", "is_less_product", "times_of", "product", "OF_TWO", "bounds", "_law_cell_at", "_law_mixed", "_law_drawn", "_law_ten", "_law_height", "_law_tidy", "_law_number", "_law_formula", "_law_full", "_law_value", "_law_told"] : List PySem.Str) ++ (["_law_level", "_law_within"] : List PySem.Str)
theorem run_f (w : World) : HandSHeadRun.RunEq R (PySem.W.view R.prog [48]) hk ob 3000 names (w.withFollow "special-get-raises" false) := by
  intro os
  kernel_rfl
theorem run_t (w : World) : HandSHeadRun.RunEq R (PySem.W.view R.prog [48]) hk ob 3000 names (w.withFollow "special-get-raises" true) := by
  intro os
  kernel_rfl
theorem run (w : World) : HandSHeadRun.RunEq R (PySem.W.view R.prog [48]) hk ob 3000 names w := PySem.W.byRow2 "special-get-raises" (P := fun w => HandSHeadRun.RunEq R (PySem.W.view R.prog [48]) hk ob 3000 names w) run_f run_t w
theorem top_of {w : World} {K : PySem.W.Frag} {h : Heap} {mg : Str → Option Value} (X : K.In h) (G : h.Ns mainGlobals mg) (c : He.SaysX fa fn ts tf ex w h K) : Top w K mg :=
  ⟨(c.t.d.def_ 0 (d := dd_ten) rfl),
   (He.glo_ok X G (c.t.d.fact 0 (f := .glo "ten") rfl)),
   (c.t.d.def_ 1 (d := dd_figures_of) rfl),
   (He.glo_ok X G (c.t.d.fact 1 (f := .glo "figures_of") rfl)),
   (c.t.d.def_ 2 (d := dd_height) rfl),
   (He.glo_ok X G (c.t.d.fact 2 (f := .glo "height") rfl)),
   (c.t.d.def_ 3 (d := dd_taken) rfl),
   (He.glo_ok X G (c.t.d.fact 3 (f := .glo "taken") rfl)),
   (c.t.d.def_ 4 (d := dd_by_size) rfl),
   (He.glo_ok X G (c.t.d.fact 4 (f := .glo "by_size") rfl)),
   (c.t.d.def_ 5 (d := dd_fitted) rfl),
   (He.glo_ok X G (c.t.d.fact 5 (f := .glo "fitted") rfl)),
   (c.t.d.def_ 6 (d := dd_power_for) rfl),
   (He.glo_ok X G (c.t.d.fact 6 (f := .glo "power_for") rfl)),
   (c.t.d.def_ 7 (d := dd_exact) rfl),
   (He.glo_ok X G (c.t.d.fact 7 (f := .glo "exact") rfl)),
   (c.t.d.def_ 8 (d := dd_level) rfl),
   (He.glo_ok X G (c.t.d.fact 8 (f := .glo "level") rfl)),
   (c.t.d.def_ 9 (d := dd_of_power) rfl),
   (He.glo_ok X G (c.t.d.fact 9 (f := .glo "of_power") rfl)),
   (c.t.d.def_ 10 (d := dd_plus) rfl),
   (He.glo_ok X G (c.t.d.fact 10 (f := .glo "plus") rfl)),
   (c.t.d.def_ 11 (d := dd_turned) rfl),
   (He.glo_ok X G (c.t.d.fact 11 (f := .glo "turned") rfl)),
   (c.t.d.def_ 12 (d := dd_minus) rfl),
   (He.glo_ok X G (c.t.d.fact 12 (f := .glo "minus") rfl)),
   (c.t.d.def_ 13 (d := dd_less) rfl),
   (He.glo_ok X G (c.t.d.fact 13 (f := .glo "less") rfl)),
   (c.t.d.def_ 14 (d := dd_plus_of) rfl),
   (He.glo_ok X G (c.t.d.fact 14 (f := .glo "plus_of") rfl)),
   (c.t.d.def_ 15 (d := dd_minus_of) rfl),
   (He.glo_ok X G (c.t.d.fact 15 (f := .glo "minus_of") rfl)),
   (c.t.d.def_ 16 (d := dd_is_less_product) rfl),
   (He.glo_ok X G (c.t.d.fact 16 (f := .glo "is_less_product") rfl)),
   (c.t.d.def_ 17 (d := dd_product) rfl),
   (He.glo_ok X G (c.t.d.fact 17 (f := .glo "product") rfl)),
   (c.t.d.def_ 18 (d := dd_times_of) rfl),
   (He.glo_ok X G (c.t.d.fact 18 (f := .glo "times_of") rfl)),
   (c.t.d.def_ 19 (d := dd_bounds) rfl),
   (He.glo_ok X G (c.t.d.fact 19 (f := .glo "bounds") rfl)),
   (c.t.d.def_ 20 (d := dd__law_cell_at) rfl),
   (He.glo_ok X G (c.t.d.fact 20 (f := .glo "_law_cell_at") rfl)),
   (c.t.d.def_ 21 (d := dd__law_mixed) rfl),
   (He.glo_ok X G (c.t.d.fact 21 (f := .glo "_law_mixed") rfl)),
   (c.t.d.def_ 22 (d := dd__law_drawn) rfl),
   (He.glo_ok X G (c.t.d.fact 22 (f := .glo "_law_drawn") rfl)),
   (c.t.d.def_ 23 (d := dd__law_ten) rfl),
   (He.glo_ok X G (c.t.d.fact 23 (f := .glo "_law_ten") rfl)),
   (c.t.d.def_ 24 (d := dd__law_tidy) rfl),
   (He.glo_ok X G (c.t.d.fact 24 (f := .glo "_law_tidy") rfl)),
   (c.t.d.def_ 25 (d := dd__law_formula) rfl),
   (He.glo_ok X G (c.t.d.fact 25 (f := .glo "_law_formula") rfl)),
   (c.t.d.def_ 26 (d := dd__law_value) rfl),
   (He.glo_ok X G (c.t.d.fact 26 (f := .glo "_law_value") rfl)),
   (c.t.d.def_ 27 (d := dd__law_told) rfl),
   (He.glo_ok X G (c.t.d.fact 27 (f := .glo "_law_told") rfl)),
   (c.t.d.def_ 28 (d := dd__law_level) rfl),
   (He.glo_ok X G (c.t.d.fact 28 (f := .glo "_law_level") rfl)),
   (c.t.d.def_ 29 (d := dd__law_within) rfl),
   (He.glo_ok X G (c.t.d.fact 29 (f := .glo "_law_within") rfl)),
   (c.t.d.def_ 30 (d := dd_law) rfl),
   (He.glo_ok X G (c.t.d.fact 30 (f := .glo "law") rfl)),
   (He.free_ok X G (c.t.d.fact 31 (f := .free "int") rfl)),
   (He.free_ok X G (c.t.d.fact 32 (f := .free "abs") rfl)),
   (He.free_ok X G (c.t.d.fact 33 (f := .free "str") rfl)),
   (He.free_ok X G (c.t.d.fact 34 (f := .free "len") rfl)),
   (He.free_ok X G (c.t.d.fact 35 (f := .free "max") rfl)),
   (He.free_ok X G (c.t.d.fact 36 (f := .free "min") rfl)),
   (He.free_ok X G (c.t.d.fact 37 (f := .free "range") rfl)),
   (He.free_ok X G (c.t.d.fact 38 (f := .free "tuple") rfl)),
   (He.free_ok X G (c.t.d.fact 39 (f := .free "repr") rfl)),
   (He.int_ok X G (c.t.d.fact 40 (f := .int "HIGHEST" (40)) rfl)),
   (He.int_ok X G (c.t.d.fact 41 (f := .int "MOST" (8)) rfl)),
   (dic_f X G (tab_eq c.t 0 (t := ((fun K => He.ga K "OF_TWO"), ["plus", "minus", "times"])) rfl) (He.ba c.more).1 (c.t.d.fact 42 (f := .glo "OF_TWO") rfl)),
   (exc_n X G (c.t.d.fact 43 (f := .glo "TooGreat") rfl) (c.t.d.fact 44 (f := .exc "TooGreat") rfl)),
   (told_c (toldB_ok (He.ba (He.ba c.more).2).1) (He.glo_ok X G (c.t.d.fact 43 (f := .glo "TooGreat") rfl)) (He.glo_ok X G (c.t.d.fact 45 (f := .glo "NoText") rfl)) (He.glo_ok X G (c.t.d.fact 46 (f := .glo "NoDeed") rfl)) (He.glo_ok X G (c.t.d.fact 47 (f := .glo "NoKey") rfl)) (He.glo_ok X G (c.t.d.fact 48 (f := .glo "NoRoom") rfl)) (He.glo_ok X G (c.t.d.fact 49 (f := .glo "PileError") rfl)) (He.free_ok X G (c.t.d.fact 50 (f := .free "isinstance") rfl)) (He.free_ok X G (c.t.d.fact 51 (f := .free "ValueError") rfl))),
   (huB_ok (He.ba (He.ba (He.ba c.more).2).2).1)⟩
theorem law_end {l : PySem.W.OpenLaw} {w : World} {K : PySem.W.Frag} {h : Heap} {mg : Str → Option Value} {f : Addr} (X : K.In h) (G : h.Ns mainGlobals mg) (hfa : mg ("law" : Str) = some (.ref f)) (c : He.SaysX fa fn ts tf ex w h K) : LawAtG l w K 63 "script" mg f h := by
  have Z := top_of X G c
  have e := hfa.symm.trans Z.m_law
  cases e
  obtain ⟨fd, Fd⟩ := Z.f_law
  have b := FunD.bindsA (ps := ["script"]) Fd fun _ _ _ _ _ _ us hl => match us, hl with | [_], _ => rfl
  refine lawAtG (T := tabT K) (tf := tf) X c.hd c.out c.empty (fun p hp => ?_) (fd := fd) (den := d_law) (fun s v => b s [v] rfl) law_true fun base h1 h2 h3 => ?_
  · unfold tabT at hp
    simp only [List.mem_cons, List.not_mem_nil, or_false] at hp
    rcases hp with rfl
    · exact ⟨("law", none), by unfold tf; simp, rfl⟩
  · exact law_fn Z h3 Fd
end LW
open PySem PySem.W PySem.Calls PyProof.Rows
set_option maxRecDepth 100000 in
set_option maxHeartbeats 0 in
theorem PySem.Challenge.cw_pocketpile_k55_whole_bounds_hold_holds : PySem.Challenge.rw_pocketpile_k55_whole_bounds_hold.Holds := by
  w_on; o_law
  refine HandSHeadRun.head_any (r := OpenLaw.row PySem.Challenge.rw_pocketpile_k55_whole_bounds_hold) (q := view (OpenLaw.row PySem.Challenge.rw_pocketpile_k55_whole_bounds_hold).prog [48]) (H := LW.hk) (ob := LW.ob) (M := 3000) (loose := LW.names) (d := HandSHeadRun.topDef (OpenLaw.row PySem.Challenge.rw_pocketpile_k55_whole_bounds_hold).prog 48) (kwd := []) LW.ob_eq
    (by kernel_rfl) (fun s => by kernel_rfl) LW.run (by kernel_rfl) (by kernel_rfl) (by kernel_rfl) (by rfl) (by first | assumption | decide +kernel) (by decide +kernel) ⟨rfl, rfl, rfl, rfl, rfl, by decide +kernel⟩ ?hw ?hc
  case hw => w_witness2
  case hc =>
    refine DN.walk_ofG (l := PySem.Challenge.rw_pocketpile_k55_whole_bounds_hold) (n := 63) (x := "script") rfl (by decide) (by kernel_rfl) ?F
    intro w mg fa h Y G hmg0
    obtain ⟨K, KX, c⟩ := Y
    have hmg : mg ("law" : PySem.Str) = some (.ref fa) := by
      have e : (HandSHeadRun.topDef (OpenLaw.row PySem.Challenge.rw_pocketpile_k55_whole_bounds_hold).prog 48).name = ("law" : PySem.Str) := by kernel_rfl
      rw [← e]
      exact hmg0
    exact ⟨K, KX, LW.law_end (l := PySem.Challenge.rw_pocketpile_k55_whole_bounds_hold) KX G hmg c⟩
