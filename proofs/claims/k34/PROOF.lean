import PyProof.Rows.All
import Wide.All
import OpenK.AllK
import Wide.FinOn
import PyProof.EqAt
import PyProof.EqKinds
import PyProof.TupleCall
import HandS.Base
import HandS.Call
import HandS.List
import HandS.Comp
import HandS.Ends
import HandS.Dict
import HandS.Iter
import HandS.Text
import HandS.Words
import HandS.WordsList
import HandS.WordsExc
import HandS.Exc
import HandS.ExcOwn
import HandS.Wide
import HandS.IsInst
import HandS.TupAny
import HandS.TupMul
import HandS.Lambda
import HandS.EndTab
import HandS.HeadWalk
import HandS.HeadHook1
import HandS.HeadHook2
import HandS.Defaults
import HandS.NoneIn
import HandS.Style
import KE.KDictDisplayH
import HandS.HeadEnd
import HandS.Head0
import HandS.Head1
import HandS.Head2
import HandS.HeadHook3
import HandS.HeadHook4
import HandS.Replace
import HandS.ExcIs
import HandS.Flt
import HandS.More
import HandS.TryMany
import HandS.CallLocal
import HandS.Strs
import HandS.ReplaceLit
import HandS.ReplaceList
import HandS.Zip
import PyProof.ReprRoads
import HandS.Deep
import HandS.Small
import PyProof.DictUpdate
import KE.GoesMore
import KE.KItemsList
import HandS.DictTup
import KE.KDictZip
import HandS.ReplaceDef
import KE.GoesEnum
import HandS.Nested
import HandS.StrMore
import KE.KDictCopyH
import KE.KDictKeyed
import KE.KEqDict
import KE.SortData
import KE.KDictPairs
import KE.DataCmp
import KE.IntTextLaws
import PySem.Challenge.RW_pocketpile_k34_whole_rings
set_option Elab.async false
set_option linter.all false
set_option maxRecDepth 100000
set_option maxHeartbeats 4000000
/-! DN: a program's defs as plain functions of data. The heap is dealt with here, once. -/
namespace DN
open PySem PySem.Spec PyProof.Rows L2
open LamX (Tabs ExtN)

/-- data -/
inductive D where
  | non | bl (b : Bool) | int (i : Int) | str (x : Str) | lst (xs : List D) | tup (xs : List D) | fn (x : Str) | ty (n : String)
  | dK (kvs : List (Key × V)) | dT (kvs : List (List Key × V)) | arr (ns : List Int)
  /-- a tuple of texts that has no dict of its own -/
  | pro (xs : List Str)
  /-- a dict whose keys are nested tuples (an object of the frame's own) -/
  | dic (P : Program) (w : World) (ks vs : List D)
  /-- a thing known by its address alone -/
  | adr (a : Addr)
  /-- an instance of the class c, its attributes (an object of the frame's own) -/
  | ins (c : Str) (ns : List Str) (vs : List D)
  /-- a dict of text keys, frozen; where its address is known, that one -/
  | tab (o : Option Addr) (ks : List Str) (vs : List D)
  /-- a tuple of ints, made at run time -/
  | pw (ks : List Int)
  /-- a tuple that has no dict of its own -/
  | frm (ds : List D)
def kvK (ks : List Str) (vs : List V) : List (Key × V) := (ks.zip vs).map fun q => (Sum.inr q.1, q.2)

/-- what comes: a value, an own error by its class's name, or nothing is promised -/
inductive Res (α : Type) where
  | ok (a : α) | ex (n : Str) | bad
def Res.bind {α β : Type} : Res α → (α → Res β) → Res β
  | .ok a, f => f a
  | .ex n, _ => .ex n
  | .bad, _ => .bad
def Res.map {α β : Type} (r : Res α) (f : α → β) : Res β := r.bind fun a => .ok (f a)
def ofO {α : Type} : Option α → Res α
  | some a => .ok a
  | none => .bad

mutual
inductive Rp (K : PySem.W.Frag) (H : Hp) : V → D → Prop
  | non : Rp K H .non .non
  | bl (b : Bool) : Rp K H (.bl b) (.bl b)
  | int (i : Int) : Rp K H (.int i) (.int i)
  | str (x : Str) : Rp K H (.str x) (.str x)
  | fn (x : Str) : Rp K H (.ref (He.ga K x)) (.fn x)
  | ty (n : String) : Rp K H (.ty n) (.ty n)
  | lst {a : Addr} {xs : List V} {ds : List D} : H a = some (.lst xs) → RpAll K H xs ds → Rp K H (.ref a) (.lst ds)
  | tup {a : Addr} {xs : List V} {ds : List D} : SqT K H a xs → RpAll K H xs ds → Rp K H (.ref a) (.tup ds)
  | dK {a : Addr} {kvs : List (Key × V)} : H a = some (.dK kvs) → Rp K H (.ref a) (.dK kvs)
  | dT {a : Addr} {kvs : List (List Key × V)} : (∃ od, H a = some (.frz od (.dT kvs))) → Rp K H (.ref a) (.dT kvs)
  | arr {a : Addr} {ns : List Int} : SqL K H a (ns.map V.int) → Rp K H (.ref a) (.arr ns)
  | pro {a : Addr} {xs : List Str} : (∃ o : Obj, o.cls = .type "tuple" ∧ o.dict = none ∧ H a = some (.frz o (.tup (xs.map V.str)))) → Rp K H (.ref a) (.pro xs)
  | adr (a : Addr) : Rp K H (.ref a) (.adr a)
  | tab {a : Addr} {o : Option Addr} {ks : List Str} {ws : List V} {ds : List D} : (∀ p, o = some p → a = p) → H a = some (.dK (kvK ks ws)) → ks.length = ws.length → RpAll K H ws ds → Rp K H (.ref a) (.tab o ks ds)
  | pw {a : Addr} {ks : List Int} : H a = some (.tup (ks.map V.int)) → Rp K H (.ref a) (.pw ks)
  | frm {a : Addr} {xs : List V} {ds : List D} : (∃ o : Obj, o.cls = .type "tuple" ∧ o.dict = none ∧ H a = some (.frz o (.tup xs))) → RpAll K H xs ds → Rp K H (.ref a) (.frm ds)
inductive RpAll (K : PySem.W.Frag) (H : Hp) : List V → List D → Prop
  | nil : RpAll K H [] []
  | cons {v : V} {vs : List V} {d : D} {ds : List D} : Rp K H v d → RpAll K H vs ds → RpAll K H (v :: vs) (d :: ds)
end

def Sub (F H : Hp) : Prop := ∀ a o, F a = some o → H a = some o
theorem Sub.refl (F : Hp) : Sub F F := fun _ _ h => h
theorem Sub.trans {F G H : Hp} (a : Sub F G) (b : Sub G H) : Sub F H := fun x o h => b x o (a x o h)
theorem Sub.rd {F H : Hp} {a : Addr} {u : HO} (e : Sub F H) (h : Rd F a u) : Rd H a u := by
  rcases h with h | ⟨o, h⟩
  · exact .inl (e _ _ h)
  · exact .inr ⟨o, e _ _ h⟩
theorem Sub.sl {K : PySem.W.Frag} {F H : Hp} {a : Addr} {xs : List V} (e : Sub F H) (h : SqL K F a xs) : SqL K H a xs := h.elim (fun h => .inl (e.rd h)) .inr
theorem Sub.st {K : PySem.W.Frag} {F H : Hp} {a : Addr} {xs : List V} (e : Sub F H) (h : SqT K F a xs) : SqT K H a xs := h.elim (fun h => .inl (e.rd h)) .inr
mutual
theorem Rp.mono {K : PySem.W.Frag} {F H : Hp} (e : Sub F H) : ∀ {v : V} {d : D}, Rp K F v d → Rp K H v d
  | _, _, .non => .non
  | _, _, .bl b => .bl b
  | _, _, .int i => .int i
  | _, _, .str x => .str x
  | _, _, .fn x => .fn x
  | _, _, .ty n => .ty n
  | _, _, .lst h t => .lst (e _ _ h) (RpAll.mono e t)
  | _, _, .tup h t => .tup (e.st h) (RpAll.mono e t)
  | _, _, .dK h => .dK (e _ _ h)
  | _, _, .dT ⟨od, h⟩ => .dT ⟨od, e _ _ h⟩
  | _, _, .arr h => .arr (e.sl h)
  | _, _, .pro ⟨o, h1, h2, h3⟩ => .pro ⟨o, h1, h2, e _ _ h3⟩
  | _, _, .adr a => .adr a
  | _, _, .tab h1 h2 h3 t => .tab h1 (e _ _ h2) h3 (RpAll.mono e t)
  | _, _, .pw h => .pw (e _ _ h)
  | _, _, .frm ⟨o, h1, h2, h3⟩ t => .frm ⟨o, h1, h2, e _ _ h3⟩ (RpAll.mono e t)
theorem RpAll.mono {K : PySem.W.Frag} {F H : Hp} (e : Sub F H) : ∀ {vs : List V} {ds : List D}, RpAll K F vs ds → RpAll K H vs ds
  | _, _, .nil => .nil
  | _, _, .cons h t => .cons (Rp.mono e h) (RpAll.mono e t)
end
section
variable {K : PySem.W.Frag} {F H : Hp}
theorem RpAll.length : ∀ {vs : List V} {ds : List D}, RpAll K F vs ds → vs.length = ds.length
  | _, _, .nil => rfl
  | _, _, .cons _ t => by rw [List.length_cons, List.length_cons, RpAll.length t]
theorem RpAll.get : ∀ {vs : List V} {ds : List D} {i : Nat} {d : D}, RpAll K F vs ds → ds[i]? = some d → ∃ v, vs[i]? = some v ∧ Rp K F v d
  | _, _, _, _, .nil, e => by simp at e
  | _, _, 0, _, .cons h _, e => by
    simp at e; subst e; exact ⟨_, rfl, h⟩
  | _, _, i + 1, d, .cons _ t, e => by
    obtain ⟨v, h1, h2⟩ := RpAll.get (i := i) (d := d) t (by simpa using e)
    exact ⟨v, by simpa using h1, h2⟩
theorem RpAll.append : ∀ {vs ws : List V} {ds es : List D}, RpAll K F vs ds → RpAll K F ws es → RpAll K F (vs ++ ws) (ds ++ es)
  | _, _, _, _, .nil, s => s
  | _, _, _, _, .cons h t, s => .cons h (RpAll.append t s)
theorem RpAll.take : ∀ {vs : List V} {ds : List D} (n : Nat), RpAll K F vs ds → RpAll K F (vs.take n) (ds.take n)
  | _, _, 0, _ => by simp; exact .nil
  | _, _, _ + 1, .nil => .nil
  | _, _, n + 1, .cons h t => .cons h (RpAll.take n t)
theorem RpAll.drop : ∀ {vs : List V} {ds : List D} (n : Nat), RpAll K F vs ds → RpAll K F (vs.drop n) (ds.drop n)
  | _, _, 0, r => r
  | _, _, _ + 1, .nil => .nil
  | _, _, n + 1, .cons _ t => RpAll.drop n t
theorem RpAll.ints : ∀ (ns : List Int), RpAll K F (ns.map V.int) (ns.map D.int)
  | [] => .nil
  | n :: ns => .cons (.int n) (RpAll.ints ns)
end

/-- the frozen part F of H -/
structure Fz (F H : Hp) : Prop where
  sub : Sub F H
  nt : ∀ a ps, F a ≠ some (.tbl ps)
/-- a table, or a tuple (which no one changes) -/
def Sd (o : HO) : Prop := (∃ ps, o = .tbl ps) ∨ ∃ xs, o = .tup xs
/-- from (F, H) to (F', H') -/
structure Nx (T : List (Addr × Str)) (F H F' H' : Hp) : Prop where
  f : Sub F F'
  z : Fz F' H'
  h : ExtN H H'
  new : ∀ a o, F' a = some o → F a = some o ∨ ∀ o', H a = some o' → Sd o'
  tab : Tabs T H → Tabs T H'
section
variable {T : List (Addr × Str)} {F H F1 H1 F2 H2 : Hp}
theorem Nx.refl (z : Fz F H) : Nx T F H F H := ⟨Sub.refl F, z, ExtN.refl H, fun _ _ h => .inl h, fun h => h⟩
theorem Nx.trans (a : Nx T F H F1 H1) (b : Nx T F1 H1 F2 H2) : Nx T F H F2 H2 where
  f := a.f.trans b.f
  z := b.z
  h := a.h.trans b.h
  new := fun x o e => by
    rcases b.new x o e with h | h
    · exact a.new x o h
    · refine .inr fun o' e' => ?_
      by_cases q : ∃ ps, o' = .tbl ps
      · exact .inl q
      · exact h o' (a.h x o' e' fun ps z => q ⟨ps, z⟩)
  tab := fun h => b.tab (a.tab h)
/-- a new object that is frozen from its begin -/
theorem Nx.push {p : Addr} {o : HO} (z : Fz F H) (hp : H p = none) (ho : ∀ ps, o ≠ .tbl ps) : Nx T F H (upd F p o) (upd H p o) := by
  have fp : F p = none := by
    cases q : F p with
    | none => rfl
    | some u =>
      have := z.sub _ _ q
      rw [hp] at this; cases this
  refine ⟨fun a u e => ?_, ⟨fun a u e => ?_, fun a ps e => ?_⟩, fun b u e _ => ?_, fun a u e => ?_, fun t => t.ext fun b u e => ?_⟩
  · rw [upd_ne (ne_of_none e fp)]; exact e
  · by_cases h : a = p
    · subst h; rw [upd_same] at e ⊢; exact e
    · rw [upd_ne h] at e ⊢; exact z.sub _ _ e
  · by_cases h : a = p
    · subst h; rw [upd_same] at e; exact ho ps (Option.some.inj e)
    · rw [upd_ne h] at e; exact z.nt _ _ e
  · rw [upd_ne (ne_of_none e hp)]; exact e
  · by_cases h : a = p
    · subst h; exact .inr fun o' e' => by rw [hp] at e'; cases e'
    · rw [upd_ne h] at e; exact .inl e
  · rw [upd_ne (ne_of_none e hp)]; exact e
/-- a new object that is not frozen -/
theorem Nx.lay {p : Addr} {o : HO} (z : Fz F H) (hp : H p = none) : Nx T F H F (upd H p o) := by
  refine ⟨Sub.refl F, ⟨fun a u e => ?_, z.nt⟩, fun b u e _ => ?_, fun a u e => .inl e, fun t => t.ext fun b u e => ?_⟩
  · rw [upd_ne (ne_of_none (z.sub _ _ e) hp)]; exact z.sub _ _ e
  · rw [upd_ne (ne_of_none e hp)]; exact e
  · rw [upd_ne (ne_of_none e hp)]; exact e
theorem Nx.keep (n : Nx T F H F1 H1) {a : Addr} {o : HO} (e : H a = some o) (ho : ∀ ps, o ≠ .tbl ps) : H1 a = some o := n.h a o e ho
theorem Nx.out (n : Nx T F H F1 H1) {a : Addr} {o : HO} (e : H a = some o) (ho : ∀ ps, o ≠ .tbl ps) (hf : F a = none) (hx : ∀ xs, o ≠ .tup xs := by intro _ z; cases z) : F1 a = none := by
  cases q : F1 a with
  | none => rfl
  | some u =>
    rcases n.new a u q with h | h
    · rw [hf] at h; cases h
    · rcases h o e with ⟨ps, z⟩ | ⟨xs, z⟩
      · exact absurd z (ho ps)
      · exact absurd z (hx xs)
end

/-- a slot: nothing is known; frozen data; an object of the frame's own -/
inductive En where
  | u | z (d : D) | o (d : D)
abbrev Rho := List En
/-! dicts of nested keys -/
mutual
def D.key : D → Option NestedKey
  | .non => some .none
  | .bl b => some (.num (if b = true then 1 else 0))
  | .int i => some (.num i)
  | .str x => some (.text x)
  | .tup ds => (D.keys ds).map .tup
  | _ => none
def D.keys : List D → Option (List NestedKey)
  | [] => some []
  | d :: ds => (D.key d).bind fun k => (D.keys ds).map fun ks => k :: ks
end
def EntR (p : NestedKey × Addr × V) (q : NestedKey × Addr × Value) : Prop := p.1 = q.1 ∧ p.2.1 = q.2.1 ∧ RelV p.2.2 q.2.2
/-- the dict at a: its keys (the tuples' addresses) and values -/
def DicO (P : Program) (w : World) (a : Addr) (es : List (NestedKey × Addr × V)) : HO := .ext fun h => (a == sysModules) = false ∧ es.length ≤ sizeLine ∧ ∃ xs : List (NestedKey × Addr × Value), Paired EntR es xs ∧
  ∃ o ents ep, h.get? a = some o ∧ o.ExactDict ∧ o.data = .dict ents ep ∧ ents.toList = xs.map (entryOfKey (nestedKind P w)) ∧ (xs.map (·.1)).Nodup
inductive DicR (K : PySem.W.Frag) (F : Hp) : List (NestedKey × Addr × V) → List D → List D → Prop
  | nil : DicR K F [] [] []
  | cons {n : NestedKey} {a : Addr} {v : V} {es : List (NestedKey × Addr × V)} {k d : D} {ks vs : List D} : k.key = some n → n.depth ≤ 8 → Rp K F (.ref a) k → Rp K F v d → DicR K F es ks vs → DicR K F ((n, a, v) :: es) (k :: ks) (d :: vs)
theorem DicR.mono {K : PySem.W.Frag} {F F' : Hp} (e : Sub F F') {es : List (NestedKey × Addr × V)} {ks vs : List D} (h : DicR K F es ks vs) : DicR K F' es ks vs := by
  induction h with
  | nil => exact .nil
  | cons h1 h2 h3 h4 _ ih => exact .cons h1 h2 (h3.mono e) (h4.mono e) ih
/-- the object at p, not frozen, is d -/
def OwnAt (K : PySem.W.Frag) (F H : Hp) (p : Addr) : D → Prop
  | .lst ds => ∃ xs, H p = some (.lst xs) ∧ RpAll K F xs ds
  | .dK kvs => H p = some (.dK kvs)
  | .dT kvs => H p = some (.dT kvs)
  | .dic P w ks vs => ∃ es, H p = some (DicO P w p es) ∧ DicR K F es ks vs
  | .ins c ns vs => ∃ dx ws, H p = some (.ins (He.ga K c) dx (ns.zip ws)) ∧ RpAll K F ws vs
  | _ => False
theorem OwnAt.solid {K : PySem.W.Frag} {F H : Hp} {p : Addr} : ∀ {d : D}, OwnAt K F H p d → ∃ o, H p = some o ∧ ∀ ps, o ≠ .tbl ps
  | .lst ds, ⟨xs, h, _⟩ => ⟨_, h, fun ps z => by cases z⟩
  | .dK kvs, h => ⟨_, h, fun ps z => by cases z⟩
  | .dT kvs, h => ⟨_, h, fun ps z => by cases z⟩
  | .dic P w ks vs, ⟨es, h, _⟩ => ⟨_, h, fun ps z => by unfold DicO at z; cases z⟩
  | .ins c ns vs, ⟨dx, ws, h, _⟩ => ⟨_, h, fun ps z => by cases z⟩
  | .non, h => h.elim
  | .bl _, h => h.elim
  | .int _, h => h.elim
  | .str _, h => h.elim
  | .tup _, h => h.elim
  | .fn _, h => h.elim
  | .ty _, h => h.elim
  | .arr _, h => h.elim
  | .pro _, h => h.elim
  | .adr _, h => h.elim
  | .tab _ _ _, h => h.elim
theorem OwnAt.notTup {K : PySem.W.Frag} {F H : Hp} {p : Addr} {d : D} {xs : List V} (h : OwnAt K F H p d) (e : H p = some (.tup xs)) : False := by
  cases d with
  | lst ds => obtain ⟨ys, q, _⟩ := h; rw [e] at q; cases q
  | dK kvs => have q : H p = some (.dK kvs) := h; rw [e] at q; cases q
  | dT kvs => have q : H p = some (.dT kvs) := h; rw [e] at q; cases q
  | dic P w ks vs => obtain ⟨es, q, _⟩ := h; rw [e] at q; unfold DicO at q; cases q
  | ins c ns vs => obtain ⟨dx, ws, q, _⟩ := h; rw [e] at q; cases q
  | _ => exact h
theorem OwnAt.mono {K : PySem.W.Frag} {T : List (Addr × Str)} {F H F' H' : Hp} {p : Addr} (n : Nx T F H F' H') : ∀ {d : D}, OwnAt K F H p d → OwnAt K F' H' p d
  | .lst ds, ⟨xs, h, r⟩ => ⟨xs, n.keep h fun ps z => (by cases z), RpAll.mono n.f r⟩
  | .dK kvs, h => n.keep h fun ps z => (by cases z)
  | .dT kvs, h => n.keep h fun ps z => (by cases z)
  | .dic P w ks vs, ⟨es, h, r⟩ => ⟨es, n.keep h fun ps z => (by unfold DicO at z; cases z), r.mono n.f⟩
  | .ins c ns vs, ⟨dx, ws, h, r⟩ => ⟨dx, ws, n.keep h fun ps z => (by cases z), r.mono n.f⟩
  | .non, h => h.elim
  | .bl _, h => h.elim
  | .int _, h => h.elim
  | .str _, h => h.elim
  | .tup _, h => h.elim
  | .fn _, h => h.elim
  | .ty _, h => h.elim
  | .arr _, h => h.elim
  | .pro _, h => h.elim
  | .adr _, h => h.elim
  | .tab _ _ _, h => h.elim
structure Rl (K : PySem.W.Frag) (F H : Hp) (σ : L2.St) (ρ : Rho) : Prop where
  len : σ.length = ρ.length
  z : ∀ (i : Nat) (d : D), ρ[i]? = some (En.z d) → ∃ v, σ[i]? = some (some v) ∧ Rp K F v d
  o : ∀ (i : Nat) (d : D), ρ[i]? = some (En.o d) → ∃ p, σ[i]? = some (some (V.ref p)) ∧ F p = none ∧ OwnAt K F H p d
  ne : ∀ (i j : Nat) (d e : D) (p q : Addr), i ≠ j → ρ[i]? = some (En.o d) → ρ[j]? = some (En.o e) → σ[i]? = some (some (V.ref p)) → σ[j]? = some (some (V.ref q)) → p ≠ q
section
variable {K : PySem.W.Frag} {T : List (Addr × Str)} {F H F' H' : Hp} {σ : L2.St} {ρ : Rho}
theorem Rl.mono (n : Nx T F H F' H') (r : Rl K F H σ ρ) : Rl K F' H' σ ρ where
  len := r.len
  z := fun i d e => let ⟨v, h1, h2⟩ := r.z i d e; ⟨v, h1, h2.mono n.f⟩
  o := fun i d e => by
    obtain ⟨p, h1, h2, h3⟩ := r.o i d e
    obtain ⟨o, h4, h5⟩ := h3.solid
    exact ⟨p, h1, n.out h4 h5 h2 (fun xs z => h3.notTup (by rw [h4, z])), h3.mono n⟩
  ne := r.ne
theorem Rl.set {i : Nat} {v : V} {d : D} (r : Rl K F H σ ρ) (h : Rp K F v d) : Rl K F H (σ.set i (some v)) (ρ.set i (.z d)) where
  len := by rw [List.length_set, List.length_set]; exact r.len
  z := fun j e hj => by
    rw [List.getElem?_set] at hj ⊢
    by_cases hij : i = j
    · subst hij
      rw [if_pos rfl] at hj ⊢
      by_cases hl : i < ρ.length
      · rw [if_pos hl] at hj
        rw [if_pos (by rw [r.len]; exact hl)]
        cases hj
        exact ⟨v, rfl, h⟩
      · rw [if_neg hl] at hj; cases hj
    · rw [if_neg hij] at hj ⊢
      exact r.z j e hj
  o := fun j e hj => by
    rw [List.getElem?_set] at hj ⊢
    by_cases hij : i = j
    · subst hij
      rw [if_pos rfl] at hj
      by_cases hl : i < ρ.length
      · rw [if_pos hl] at hj; cases hj
      · rw [if_neg hl] at hj; cases hj
    · rw [if_neg hij] at hj ⊢
      exact r.o j e hj
  ne := fun j k a b p q hn h1 h2 h3 h4 => by
    rw [List.getElem?_set] at h1 h2 h3 h4
    have fj : i ≠ j := fun z => by
      rw [if_pos z] at h1; split at h1 <;> cases h1
    have fk : i ≠ k := fun z => by
      rw [if_pos z] at h2; split at h2 <;> cases h2
    rw [if_neg fj] at h1 h3
    rw [if_neg fk] at h2 h4
    exact r.ne j k a b p q hn h1 h2 h3 h4
theorem Rl.wipe1 {i : Nat} (r : Rl K F H σ ρ) : Rl K F H (σ.set i none) (ρ.set i .u) where
  len := by rw [List.length_set, List.length_set]; exact r.len
  z := fun j e hj => by
    rw [List.getElem?_set] at hj ⊢
    by_cases hij : i = j
    · subst hij
      rw [if_pos rfl] at hj
      split at hj <;> cases hj
    · rw [if_neg hij] at hj ⊢
      exact r.z j e hj
  o := fun j e hj => by
    rw [List.getElem?_set] at hj ⊢
    by_cases hij : i = j
    · subst hij
      rw [if_pos rfl] at hj
      split at hj <;> cases hj
    · rw [if_neg hij] at hj ⊢
      exact r.o j e hj
  ne := fun j k a b p q hn h1 h2 h3 h4 => by
    rw [List.getElem?_set] at h1 h2 h3 h4
    have fj : i ≠ j := fun z => by
      rw [if_pos z] at h1; split at h1 <;> cases h1
    have fk : i ≠ k := fun z => by
      rw [if_pos z] at h2; split at h2 <;> cases h2
    rw [if_neg fj] at h1 h3
    rw [if_neg fk] at h2 h4
    exact r.ne j k a b p q hn h1 h2 h3 h4
end

/-! ### readings by functions of data -/
/-- what is wanted behind: of an α that stands for the β -/
def aft {α β : Type} (R : Hp → α → β → Prop) (K : PySem.W.Frag) (T : List (Addr × Str)) (W : WX) (σ : L2.St) (F H : Hp) (Q : α → Hp → Prop) : Res β → Prop
  | .ok b => ∀ a F' H', Nx T F H F' H' → R F' a b → Q a H'
  | .ex n => ∀ F' H', Nx T F H F' H' → W (.ref (He.ga K n)) none σ H'
  | .bad => False
abbrev RBool : Hp → Bool → Bool → Prop := fun _ a b => a = b
/-- where one stands -/
structure At (K : PySem.W.Frag) (T : List (Addr × Str)) (F H : Hp) (σ : L2.St) (ρ : Rho) : Prop where
  z : Fz F H
  t : Tabs T H
  r : Rl K F H σ ρ
theorem At.nx {K : PySem.W.Frag} {T : List (Addr × Str)} {F H F' H' : Hp} {σ : L2.St} {ρ : Rho} (a : At K T F H σ ρ) (n : Nx T F H F' H') : At K T F' H' σ ρ := ⟨n.z, n.tab a.t, a.r.mono n⟩
def tG {α β : Type} (R : PySem.W.Frag → Hp → α → β → Prop) (K : PySem.W.Frag) (T : List (Addr × Str)) (W : WX) (f : Rho → Res β) : L2.St → Hp → (α → Hp → Prop) → Prop :=
  fun σ H Q => ∃ ρ F, At K T F H σ ρ ∧ aft (R K) K T W σ F H Q (f ρ)
def tE (K : PySem.W.Frag) (T : List (Addr × Str)) (W : WX) (f : Rho → Res D) : TE := tG Rp K T W f
def tA (K : PySem.W.Frag) (T : List (Addr × Str)) (W : WX) (f : Rho → Res (List D)) : TA := tG RpAll K T W f
def tT (K : PySem.W.Frag) (T : List (Addr × Str)) (W : WX) (f : Rho → Res Bool) : TT := tG (fun _ => RBool) K T W f
section
variable {K : PySem.W.Frag} {T : List (Addr × Str)} {W : WX} {σ : L2.St} {F H F' H' : Hp}
theorem aft.mono {α β : Type} {R : Hp → α → β → Prop} {Q : α → Hp → Prop} {r : Res β} (n : Nx T F H F' H') (h : aft R K T W σ F H Q r) : aft R K T W σ F' H' Q r := by
  cases r with
  | ok b => exact fun a F2 H2 n2 ra => h a F2 H2 (n.trans n2) ra
  | ex m => exact fun F2 H2 n2 => h F2 H2 (n.trans n2)
  | bad => exact h
theorem aft.imp {α β : Type} {R : Hp → α → β → Prop} {Q Q' : α → Hp → Prop} {r : Res β} (h : aft R K T W σ F H Q r) (hq : ∀ b, r = .ok b → ∀ a F' H', Nx T F H F' H' → R F' a b → Q a H' → Q' a H') : aft R K T W σ F H Q' r := by
  cases r with
  | ok b => exact fun a F2 H2 n ra => hq b rfl a F2 H2 n ra (h a F2 H2 n ra)
  | ex m => exact h
  | bad => exact h
/-- one thing behind another -/
theorem aft.bind {α β γ δ : Type} {R : Hp → α → β → Prop} {S : Hp → γ → δ → Prop} {Q : γ → Hp → Prop} {r : Res β} {k : β → Res δ} (h : aft S K T W σ F H Q (r.bind k)) :
    aft R K T W σ F H (fun a H1 => ∃ b F1, r = .ok b ∧ Nx T F H F1 H1 ∧ R F1 a b ∧ aft S K T W σ F1 H1 Q (k b)) r := by
  cases r with
  | ok b => exact fun a F2 H2 n ra => ⟨b, F2, rfl, n, ra, aft.mono n h⟩
  | ex m => exact h
  | bad => exact h
theorem aft.ok {α β : Type} {R : Hp → α → β → Prop} {Q : α → Hp → Prop} {b : β} {a : α} {F1 H1 : Hp} (h : aft R K T W σ F H Q (.ok b)) (n : Nx T F H F1 H1) (ra : R F1 a b) : Q a H1 := h a F1 H1 n ra
end
/-- a judgement is weakened -/
theorem _root_.L2.PE.to {X : Cx} {e : Expr} {t u : TE} (h : PE X e t) (k : ∀ σ H Q, u σ H Q → t σ H Q) : PE X e u := ⟨fun pins s σ H Q I q => h.run pins s σ H Q I (k σ H Q q)⟩
theorem _root_.L2.PT.to {X : Cx} {e : Expr} {t u : TT} (h : PT X e t) (k : ∀ σ H Q, u σ H Q → t σ H Q) : PT X e u := ⟨fun pins s σ H Q I q => h.run pins s σ H Q I (k σ H Q q)⟩
theorem _root_.L2.PW.to {X : Cx} {e : Expr} {t u : TT} (h : PW X e t) (k : ∀ σ H Q, u σ H Q → t σ H Q) : PW X e u := ⟨fun whole pins s σ H Q I q => h.run whole pins s σ H Q I (k σ H Q q)⟩
theorem _root_.L2.PA.to {X : Cx} {es : List Expr} {t u : TA} (h : PA X es t) (k : ∀ σ H Q, u σ H Q → t σ H Q) : PA X es u := ⟨fun pos pins s σ H Q I q => h.run pos pins s σ H Q I (k σ H Q q)⟩
theorem _root_.L2.PS.to {X : Cx} {st : Stmt} {t u : TS} (h : PS X st t) (k : ∀ D σ H, u D σ H → t D σ H) : PS X st u := ⟨fun pins s σ H D I q => h.run pins s σ H D I (k D σ H q)⟩
theorem _root_.L2.PSs.to {X : Cx} {st : List Stmt} {t u : TS} (h : PSs X st t) (k : ∀ D σ H, u D σ H → t D σ H) : PSs X st u := ⟨fun pins s σ H D I q => h.run pins s σ H D I (k D σ H q)⟩

/-! ### names, constants, arguments -/
section
variable {X : Cx} {T : List (Addr × Str)} {W : WX}
abbrev DE (X : Cx) (T : List (Addr × Str)) (W : WX) (e : Expr) (f : Rho → Res D) : Prop := PE X e (tE X.K T W f)
abbrev DQ (X : Cx) (T : List (Addr × Str)) (W : WX) (e : Expr) (f : Rho → Res Bool) : Prop := PT X e (tT X.K T W f)
abbrev DW (X : Cx) (T : List (Addr × Str)) (W : WX) (e : Expr) (f : Rho → Res Bool) : Prop := PW X e (tT X.K T W f)
abbrev DA (X : Cx) (T : List (Addr × Str)) (W : WX) (es : List Expr) (f : Rho → Res (List D)) : Prop := PA X es (tA X.K T W f)

def var (i : Nat) : Rho → Res D := fun ρ => match ρ[i]? with
  | some (.z d) => .ok d
  | _ => .bad
theorem e_var {i : Nat} {x : Str} {pos : Pos} (h : PE X (.Name x pos) (tVar i)) : DE X T W (.Name x pos) (var i) := h.to fun σ H Q hq => by
  obtain ⟨ρ, F, a, h⟩ := hq
  unfold var at h
  cases e : ρ[i]? with
  | none => rw [e] at h; exact h.elim
  | some en =>
    rw [e] at h
    cases en with
    | u => exact h.elim
    | o d => exact h.elim
    | z d =>
      obtain ⟨v, h1, h2⟩ := a.r.z i d e
      exact ⟨v, h1, h v F H (Nx.refl a.z) h2⟩
def con (d : D) : Rho → Res D := fun _ => .ok d
theorem e_c {e : Expr} {v : V} {d : D} (h : PE X e (tC v)) (r : ∀ F, Rp X.K F v d) : DE X T W e (con d) := h.to fun σ H Q ⟨ρ, F, a, h⟩ => h v F H (Nx.refl a.z) (r F)
theorem e_int {i j pos} : DE X T W (.Constant (.int i) j pos) (con (.int i)) := e_c pe_int fun _ => .int i
theorem e_bl {b j pos} : DE X T W (.Constant (.bool b) j pos) (con (.bl b)) := e_c pe_bl fun _ => .bl b
theorem e_non {j pos} : DE X T W (.Constant .none j pos) (con .non) := e_c pe_non fun _ => .non
theorem e_str {x j pos} : DE X T W (.Constant (.str x) j pos) (con (.str x)) := e_c pe_str fun _ => .str x

def anil : Rho → Res (List D) := fun _ => .ok []
def acons (f : Rho → Res D) (g : Rho → Res (List D)) : Rho → Res (List D) := fun ρ => (f ρ).bind fun d => (g ρ).bind fun ds => .ok (d :: ds)
theorem a_nil : DA X T W [] anil := pa_nil.to fun σ H Q ⟨ρ, F, a, h⟩ => h [] F H (Nx.refl a.z) .nil
theorem a_cons {e : Expr} {es : List Expr} {f : Rho → Res D} {g : Rho → Res (List D)} (he : DE X T W e f) (hs : DA X T W es g) (hstar : starEach (e :: es) X.env = (false, eval e X.env) :: starEach es X.env := by rfl) : DA X T W (e :: es) (acons f g) :=
  (pa_cons he hs hstar).to fun σ H Q ⟨ρ, F, a, h⟩ => by
    refine ⟨ρ, F, a, (aft.bind (R := Rp X.K) h).imp fun d _ v F1 H1 _ _ q => ?_⟩
    obtain ⟨b, F2, _, n, rv, q⟩ := q
    refine ⟨ρ, F2, a.nx n, (aft.bind (R := RpAll X.K) q).imp fun ds _ vs F3 H3 _ _ q => ?_⟩
    obtain ⟨ds', F4, _, n2, rs, q⟩ := q
    exact q.ok (Nx.refl n2.z) (.cons (rv.mono n2.f) rs)
end
end DN
namespace DN
open PySem PySem.Spec PyProof.Rows L2
open LamX (Tabs ExtN)
open PySem.Builtin.Str (tooLong)

/-! ### operators -/
/-- an operation on values, by a function of data -/
def rD2 (K : PySem.W.Frag) (T : List (Addr × Str)) (G : D → D → Option D) : R2 := fun x y H Q =>
  ∃ F d e z, Fz F H ∧ Rp K F x d ∧ Rp K F y e ∧ G d e = some z ∧ ∀ v F' H', Nx T F H F' H' → Rp K F' v z → Q v H'
def rD1 (K : PySem.W.Frag) (T : List (Addr × Str)) (G : D → Option D) : V → Hp → VK → Prop := fun x H Q =>
  ∃ F d z, Fz F H ∧ Rp K F x d ∧ G d = some z ∧ ∀ v F' H', Nx T F H F' H' → Rp K F' v z → Q v H'
def rDn (K : PySem.W.Frag) (T : List (Addr × Str)) (G : List D → Option D) : List V → Hp → VK → Prop := fun xs H Q =>
  ∃ F ds z, Fz F H ∧ RpAll K F xs ds ∧ G ds = some z ∧ ∀ v F' H', Nx T F H F' H' → Rp K F' v z → Q v H'
def bop (G : D → D → Option D) (f g : Rho → Res D) : Rho → Res D := fun ρ => (f ρ).bind fun d => (g ρ).bind fun e => ofO (G d e)
def una (G : D → Option D) (f : Rho → Res D) : Rho → Res D := fun ρ => (f ρ).bind fun d => ofO (G d)
def cal (G : List D → Option D) (f : Rho → Res (List D)) : Rho → Res D := fun ρ => (f ρ).bind fun ds => ofO (G ds)
section
variable {X : Cx} {T : List (Addr × Str)} {W : WX}
theorem ofO_ok {α : Type} {o : Option α} {K : PySem.W.Frag} {σ : L2.St} {F H : Hp} {β : Type} {R : Hp → β → α → Prop} {Q : β → Hp → Prop} (h : aft R K T W σ F H Q (ofO o)) : ∃ a, o = some a ∧ ∀ b F' H', Nx T F H F' H' → R F' b a → Q b H' := by
  cases o with
  | none => exact h.elim
  | some a => exact ⟨a, rfl, h⟩
theorem bin_to {K : PySem.W.Frag} {G : D → D → Option D} {f g : Rho → Res D} {σ : L2.St} {H : Hp} {Q : VK} (h : tE K T W (bop G f g) σ H Q) : tOp (rD2 K T G) (tE K T W f) (tE K T W g) σ H Q := by
  obtain ⟨ρ, F, a, h⟩ := h
  refine ⟨ρ, F, a, (aft.bind (R := Rp K) h).imp fun d _ v F1 H1 _ _ q => ?_⟩
  obtain ⟨b, F2, _, n, rv, q⟩ := q
  refine ⟨ρ, F2, a.nx n, (aft.bind (R := Rp K) q).imp fun ds _ vs F3 H3 _ _ q => ?_⟩
  obtain ⟨e, F4, _, n2, rs, q⟩ := q
  obtain ⟨z, hz, q⟩ := ofO_ok q
  exact ⟨F4, b, e, z, n2.z, rv.mono n2.f, rs, hz, q⟩
theorem e_bin {op : Operator} {G : D → D → Option D} {a b : Expr} {f g : Rho → Res D} {pos : Pos} (ho : OpR X (binaryOp op) (rD2 X.K T G)) (ha : DE X T W a f) (hb : DE X T W b g) : DE X T W (.BinOp a op b pos) (bop G f g) :=
  (pe_op ho ha hb).to fun _ _ _ h => bin_to h
theorem e_una {op : UnaryOp} {G : D → Option D} {a : Expr} {f : Rho → Res D} {pos : Pos} (ho : UnR X (unaryOp op) (rD1 X.K T G)) (ha : DE X T W a f) : DE X T W (.UnaryOp op a pos) (una G f) :=
  (pe_un ho ha).to fun σ H Q ⟨ρ, F, a, h⟩ => by
    refine ⟨ρ, F, a, (aft.bind (R := Rp X.K) h).imp fun d _ v F1 H1 _ _ q => ?_⟩
    obtain ⟨b, F2, _, n, rv, q⟩ := q
    obtain ⟨z, hz, q⟩ := ofO_ok q
    exact ⟨F2, b, z, n.z, rv, hz, q⟩
theorem e_cmp {op : CmpOp} {G : D → D → Option D} {a b : Expr} {f g : Rho → Res D} {pos : Pos} (ho : OpR X (compareOp op) (rD2 X.K T G)) (ha : DE X T W a f) (hb : DE X T W b g) (hm : behindInMarks op b = false) : DE X T W (.Compare a [op] [b] pos) (bop G f g) :=
  (pe_cmpR ho ha hb hm).to fun _ _ _ h => bin_to h
/-- a comparison's answer -/
def ans : D → Res Bool
  | .bl b => .ok b
  | _ => .bad
def tst (f : Rho → Res D) : Rho → Res Bool := fun ρ => (f ρ).bind ans
theorem tst_to {K : PySem.W.Frag} {f : Rho → Res D} {σ : L2.St} {H : Hp} {Q : Bool → Hp → Prop} (h : tT K T W (tst f) σ H Q) : tE K T W f σ H fun x H' => ∃ k, x = .bl k ∧ Q k H' := by
  obtain ⟨ρ, F, a, h⟩ := h
  refine ⟨ρ, F, a, (aft.bind (R := Rp K) h).imp fun d _ v F1 H1 _ _ q => ?_⟩
  obtain ⟨b, F2, _, n, rv, q⟩ := q
  cases b with
  | bl k =>
    cases rv
    exact ⟨k, rfl, q k F2 H1 (Nx.refl n.z) rfl⟩
  | _ => exact q.elim
theorem q_cmp {op : CmpOp} {G : D → D → Option D} {a b : Expr} {f g : Rho → Res D} {pos : Pos} (ho : OpR X (compareOp op) (rD2 X.K T G)) (ha : DE X T W a f) (hb : DE X T W b g) (hm : behindInMarks op b = false) : DQ X T W (.Compare a [op] [b] pos) (tst (bop G f g)) :=
  (pt_cmpR ho ha hb hm).to fun σ H Q h => by
    have h2 := tst_to h
    exact bin_to h2
end

/-! the operators' functions -/
def CMulD (i j : Int) : Prop := CMul i j ∨ CMulW i j
instance : Decidable (CMulD i j) := by unfold CMulD CMul CMulW; infer_instance
instance : Decidable (CDivW i j) := by unfold CDivW; infer_instance
def repS (x : Str) (n : Int) : Str := ⟨((List.replicate n.toNat x.cps.toList).flatten).toArray⟩
def addD : D → D → Option D
  | .int i, .int j => some (.int (i + j))
  | .str x, .str y => if x.length + y.length ≤ sizeLine then some (.str (x ++ y)) else none
  | .tup xs, .tup ys => if xs.length + ys.length ≤ sizeLine then some (.tup (xs ++ ys)) else none
  | .lst xs, .lst ys => if xs.length + ys.length ≤ sizeLine then some (.lst (xs ++ ys)) else none
  | _, _ => none
def subD : D → D → Option D
  | .int i, .int j => some (.int (i - j))
  | _, _ => none
def mulD : D → D → Option D
  | .int i, .int j => if CMulD i j then some (.int (i * j)) else none
  | .str x, .int n => if n ≤ 1000000 ∧ -1000000 ≤ n ∧ x.length * n.toNat ≤ 1000000 then some (.str (repS x n)) else none
  | .tup xs, .int k => if 2 ≤ k ∧ k ≤ 1000 ∧ xs.isEmpty = false ∧ xs.length ≤ 1000 then some (.tup (List.replicate k.toNat xs).flatten) else none
  | _, _ => none
def divD : D → D → Option D
  | .int i, .int j => if CDivW i j then some (.int (i / j)) else none
  | _, _ => none
def modD : D → D → Option D
  | .int i, .int j => if 0 < j then some (.int (i % j)) else none
  | _, _ => none
def negD : D → Option D
  | .int i => some (.int (-i))
  | _ => none
def ltD : D → D → Option D
  | .int i, .int j => some (.bl (decide (i < j)))
  | _, _ => none
def leD : D → D → Option D
  | .int i, .int j => some (.bl (decide (i ≤ j)))
  | _, _ => none
def gtD : D → D → Option D
  | .int i, .int j => some (.bl (decide (j < i)))
  | _, _ => none
def geD : D → D → Option D
  | .int i, .int j => some (.bl (decide (j ≤ i)))
  | _, _ => none
def isN : D → D → Option D
  | .non, .non => some (.bl true)
  | _, .non => some (.bl false)
  | _, _ => none
def isNotN : D → D → Option D
  | .non, .non => some (.bl false)
  | _, .non => some (.bl true)
  | _, _ => none
section
variable {X : Cx} {T : List (Addr × Str)} {W : WX}
theorem done0 {K : PySem.W.Frag} {F H : Hp} {z : D} {v : V} {Q : VK} (hz : Fz F H) (q : ∀ v F' H', Nx T F H F' H' → Rp K F' v z → Q v H') (r : Rp K F v z) : Q v H := q v F H (Nx.refl hz) r
theorem donep {K : PySem.W.Frag} {F H : Hp} {z : D} {p : Addr} {o : HO} {Q : VK} (hz : Fz F H) (hp : H p = none) (ho : ∀ ps, o ≠ .tbl ps) (q : ∀ v F' H', Nx T F H F' H' → Rp K F' v z → Q v H') (r : Rp K (upd F p o) (.ref p) z) : Q (.ref p) (upd H p o) :=
  q _ _ _ (Nx.push hz hp ho) r
theorem rp_tup {K : PySem.W.Frag} {F H : Hp} {p : Addr} {xs : List V} {ds : List D} (hz : Fz F H) (hp : H p = none) (r : RpAll K F xs ds) : Rp K (upd F p (.tup xs)) (.ref p) (.tup ds) :=
  .tup (.inl (.inl upd_same)) (r.mono (Nx.push (T := []) (o := .tup xs) hz hp (fun ps z => by cases z)).f)
theorem rp_lst {K : PySem.W.Frag} {F H : Hp} {p : Addr} {xs : List V} {ds : List D} (hz : Fz F H) (hp : H p = none) (r : RpAll K F xs ds) : Rp K (upd F p (.lst xs)) (.ref p) (.lst ds) :=
  .lst upd_same (r.mono (Nx.push (T := []) (o := .lst xs) hz hp (fun ps z => by cases z)).f)
theorem ntT {xs : List V} : ∀ ps, HO.tup xs ≠ .tbl ps := fun _ z => by cases z
theorem ntL {xs : List V} : ∀ ps, HO.lst xs ≠ .tbl ps := fun _ z => by cases z
theorem RpAll.nil_iff {K : PySem.W.Frag} {F : Hp} {xs : List V} {ds : List D} (r : RpAll K F xs ds) : xs = [] ↔ ds = [] := by
  cases r with
  | nil => simp
  | cons _ _ => simp
theorem o_add : OpR X (binaryOp .Add) (rD2 X.K T addD) := by
  intro pins s σ H x y v u Q I rx ry h
  obtain ⟨F, d, e, z, hz, rd, re, hG, q⟩ := h
  cases rd with
  | int i =>
    cases re with
    | int j => cases hG; exact op_add pins s σ H _ _ v u Q I rx ry ⟨i, j, rfl, rfl, done0 hz q (.int _)⟩
    | _ => cases hG
  | str i =>
    cases re with
    | str j =>
      have hG : (if i.length + j.length ≤ sizeLine then some (D.str (i ++ j)) else none) = some z := hG
      split at hG
      · rename_i hl
        cases hG
        exact op_add_str pins s σ H _ _ v u Q I rx ry ⟨i, j, rfl, rfl, hl, done0 hz q (.str _)⟩
      · cases hG
    | _ => cases hG
  | tup h1 r1 =>
    cases re with
    | tup h2 r2 =>
      rename_i a xs ds b ys es
      have hG : (if ds.length + es.length ≤ sizeLine then some (D.tup (ds ++ es)) else none) = some z := hG
      split at hG
      · rename_i hl
        cases hG
        refine op_catA pins s σ H _ _ v u Q I rx ry ⟨a, b, xs, ys, rfl, rfl, hz.sub.st h1, hz.sub.st h2, by rw [r1.length, r2.length]; exact hl, fun e => ?_, fun e1 e2 => ?_, fun e1 e2 p hp => ?_⟩
        · have e' := r1.nil_iff.mp e
          subst e'
          exact done0 hz q (.tup h2 r2)
        · have e' := r2.nil_iff.mp e2
          subst e'
          rw [List.append_nil] at q
          exact done0 hz q (.tup h1 r1)
        · exact donep hz hp ntT q (rp_tup hz hp (r1.append r2))
      · cases hG
    | _ => cases hG
  | lst h1 r1 =>
    cases re with
    | lst h2 r2 =>
      rename_i a xs ds b ys es
      have hG : (if ds.length + es.length ≤ sizeLine then some (D.lst (ds ++ es)) else none) = some z := hG
      split at hG
      · rename_i hl
        cases hG
        exact op_cat pins s σ H _ _ v u Q I rx ry ⟨a, b, xs, ys, rfl, rfl, hz.sub _ _ h1, hz.sub _ _ h2, by rw [r1.length, r2.length]; exact hl, fun p hp => donep hz hp ntL q (rp_lst hz hp (r1.append r2))⟩
      · cases hG
    | _ => cases hG
  | _ => cases hG
theorem o_sub : OpR X (binaryOp .Sub) (rD2 X.K T subD) := by
  intro pins s σ H x y v u Q I rx ry h
  obtain ⟨F, d, e, z, hz, rd, re, hG, q⟩ := h
  cases rd with
  | int i =>
    cases re with
    | int j => cases hG; exact op_sub pins s σ H _ _ v u Q I rx ry ⟨i, j, rfl, rfl, done0 hz q (.int _)⟩
    | _ => cases hG
  | _ => cases hG
theorem foldA (x : Array Nat) : ∀ (n : Nat) (acc : Array Nat), (List.replicate n x).foldl (· ++ ·) acc = (acc.toList ++ (List.replicate n x.toList).flatten).toArray
  | 0, acc => by simp
  | n + 1, acc => by
    rw [List.replicate_succ, List.foldl_cons, foldA x n]
    simp [List.replicate_succ]
theorem fold_rep (x : Array Nat) (n : Nat) : (List.replicate n x).foldl (· ++ ·) #[] = ((List.replicate n x.toList).flatten).toArray := by
  rw [foldA]; simp
theorem sizeLine_val : (sizeLine : Nat) = 16777216 := sizeLine_eq
theorem o_mul_str {pins : List (Addr × Obj)} {s : Shared} {σ : L2.St} {H : Hp} {Q : VK} {x : Str} {n : Int} {t u : Tok} (I : Inv X pins σ H s) (h1 : n ≤ 1000000) (h2 : -1000000 ≤ n) (h3 : x.length * n.toNat ≤ 1000000) (q : Q (.str (repS x n)) H) :
    wpAny (model X.prog X.w) X.A (binaryOp .Mult (.str x t) (.int n u)) (EP X pins σ Q) X.xe s := by
  have tl : tooLong (x.length * n.toNat) = false := by
    unfold tooLong
    refine decide_eq_false ?_
    rw [sizeLine_val]
    omega
  refine PySem.P.mul_str (by rw [decide_eq_false (by omega), decide_eq_false (by omega)]; rfl) (fun g1 g2 => ?_) (fun _ _ => tl) ?_
  · intro hgt
    have hx : x.length ≤ 1000000 := by
      have hn : 1 ≤ n.toNat := by omega
      have := Nat.mul_le_mul_left x.length hn
      omega
    have hd : (2 ^ 63 - 1) / 1000000 ≤ (2 ^ 63 - 1 : Int) / n := by
      apply Int.le_ediv_of_mul_le (by omega)
      have : ((2 ^ 63 - 1 : Int) / 1000000) * n ≤ ((2 ^ 63 - 1 : Int) / 1000000) * 1000000 := Int.mul_le_mul_of_nonneg_left h1 (by decide)
      exact Int.le_trans this (by decide)
    have h0 : (1000000 : Int) ≤ (2 ^ 63 - 1) / 1000000 := by decide
    omega
  · by_cases g1 : n < 1
    · rw [if_pos g1]
      have e : repS x n = Str.empty := by
        unfold repS
        rw [show n.toNat = 0 by omega] <;> rfl
      rw [e] at q
      exact ⟨by decide, ⟨.str Str.empty, H, I.tok _, ⟨_, rfl⟩, q⟩⟩
    · rw [if_neg g1]
      by_cases g2 : (n == 1 || x.length == 0) = true
      · rw [if_pos g2]
        have e : repS x n = x := by
          unfold repS
          rw [Bool.or_eq_true, beq_iff_eq, beq_iff_eq] at g2
          rcases g2 with g | g
          · subst g
            show (⟨(([x.cps.toList] : List (List Nat)).flatten).toArray⟩ : Str) = x
            simp
          · have : x.cps = #[] := Array.eq_empty_of_size_eq_zero g
            cases x
            simp only at this
            subst this
            simp
        rw [e] at q
        exact ⟨.str x, H, I, ⟨_, rfl⟩, q⟩
      · rw [if_neg g2, fold_rep]
        refine ⟨?_, ⟨.str (repS x n), H, I.tok _, ⟨_, rfl⟩, q⟩⟩
        rw [sizeLine_val]
        show ((List.replicate n.toNat x.cps.toList).flatten).toArray.size ≤ _
        rw [List.size_toArray, List.length_flatten]
        simp
        have e : n.toNat * x.cps.size = x.length * n.toNat := Nat.mul_comm _ _
        rw [e]
        omega
theorem o_mul : OpR X (binaryOp .Mult) (rD2 X.K T mulD) := by
  intro pins s σ H x y v u Q I rx ry h
  obtain ⟨F, d, e, z, hz, rd, re, hG, q⟩ := h
  cases rd with
  | int i =>
    cases re with
    | int j =>
      have hG : (if CMulD i j then some (D.int (i * j)) else none) = some z := hG
      split at hG
      · rename_i hc
        cases hG
        rcases hc with hc | hc
        · exact op_mul pins s σ H _ _ v u Q I rx ry ⟨i, j, rfl, rfl, hc, done0 hz q (.int _)⟩
        · exact op_mulW pins s σ H _ _ v u Q I rx ry ⟨i, j, rfl, rfl, hc, done0 hz q (.int _)⟩
      · cases hG
    | _ => cases hG
  | str x =>
    cases re with
    | int n =>
      have hG : (if n ≤ 1000000 ∧ -1000000 ≤ n ∧ x.length * n.toNat ≤ 1000000 then some (D.str (repS x n)) else none) = some z := hG
      split at hG
      · rename_i hc
        cases hG
        obtain ⟨t, rfl⟩ := rx
        obtain ⟨t', rfl⟩ := ry
        exact o_mul_str I hc.1 hc.2.1 hc.2.2 (done0 hz q (.str _))
      · cases hG
    | _ => cases hG
  | tup h1 r1 =>
    cases re with
    | int k =>
      rename_i a xs ds
      have hG : (if 2 ≤ k ∧ k ≤ 1000 ∧ ds.isEmpty = false ∧ ds.length ≤ 1000 then some (D.tup (List.replicate k.toNat ds).flatten) else none) = some z := hG
      split at hG
      · rename_i hc
        cases hG
        obtain ⟨c1, c2, c3, c4⟩ := hc
        have many : ∀ n, RpAll X.K F (List.replicate n xs).flatten (List.replicate n ds).flatten := fun n => by
          induction n with
          | zero => exact .nil
          | succ n ih => simpa [List.replicate_succ] using r1.append ih
        have some_ : xs ≠ [] := fun z => by
          subst z
          cases r1
          cases c3
        exact op_repT pins s σ H _ _ v u Q I rx ry ⟨a, k, xs, rfl, rfl, hz.sub.st h1, some_, c1, c2, by rw [r1.length]; exact c4, fun p hp => donep hz hp ntT q (rp_tup hz hp (many _))⟩
      · cases hG
    | _ => cases hG
  | _ => cases hG
theorem o_div : OpR X (binaryOp .FloorDiv) (rD2 X.K T divD) := by
  intro pins s σ H x y v u Q I rx ry h
  obtain ⟨F, d, e, z, hz, rd, re, hG, q⟩ := h
  cases rd with
  | int i =>
    cases re with
    | int j =>
      have hG : (if CDivW i j then some (D.int (i / j)) else none) = some z := hG
      split at hG
      · rename_i hc
        cases hG
        exact op_fdivW pins s σ H _ _ v u Q I rx ry ⟨i, j, rfl, rfl, hc, done0 hz q (.int _)⟩
      · cases hG
    | _ => cases hG
  | _ => cases hG
theorem o_mod : OpR X (binaryOp .Mod) (rD2 X.K T modD) := by
  intro pins s σ H x y v u Q I rx ry h
  obtain ⟨F, d, e, z, hz, rd, re, hG, q⟩ := h
  cases rd with
  | int i =>
    cases re with
    | int j =>
      have hG : (if 0 < j then some (D.int (i % j)) else none) = some z := hG
      split at hG
      · rename_i hc
        cases hG
        exact op_mod pins s σ H _ _ v u Q I rx ry ⟨i, j, rfl, rfl, hc, done0 hz q (.int _)⟩
      · cases hG
    | _ => cases hG
  | _ => cases hG
theorem u_neg : UnR X (unaryOp .USub) (rD1 X.K T negD) := by
  intro pins s σ H x v Q I rx h
  obtain ⟨F, d, z, hz, rd, hG, q⟩ := h
  cases rd with
  | int i => cases hG; exact un_neg pins s σ H _ v Q I rx ⟨i, rfl, done0 hz q (.int _)⟩
  | _ => cases hG
theorem o_lt : OpR X (compareOp .Lt) (rD2 X.K T ltD) := by
  intro pins s σ H x y v u Q I rx ry h
  obtain ⟨F, d, e, z, hz, rd, re, hG, q⟩ := h
  cases rd with
  | int i =>
    cases re with
    | int j => cases hG; exact op_lt pins s σ H _ _ v u Q I rx ry ⟨i, j, rfl, rfl, done0 hz q (.bl _)⟩
    | _ => cases hG
  | _ => cases hG
theorem o_le : OpR X (compareOp .LtE) (rD2 X.K T leD) := by
  intro pins s σ H x y v u Q I rx ry h
  obtain ⟨F, d, e, z, hz, rd, re, hG, q⟩ := h
  cases rd with
  | int i =>
    cases re with
    | int j => cases hG; exact op_le pins s σ H _ _ v u Q I rx ry ⟨i, j, rfl, rfl, done0 hz q (.bl _)⟩
    | _ => cases hG
  | _ => cases hG
theorem o_gt : OpR X (compareOp .Gt) (rD2 X.K T gtD) := by
  intro pins s σ H x y v u Q I rx ry h
  obtain ⟨F, d, e, z, hz, rd, re, hG, q⟩ := h
  cases rd with
  | int i =>
    cases re with
    | int j => cases hG; exact op_gt pins s σ H _ _ v u Q I rx ry ⟨i, j, rfl, rfl, done0 hz q (.bl _)⟩
    | _ => cases hG
  | _ => cases hG
theorem o_ge : OpR X (compareOp .GtE) (rD2 X.K T geD) := by
  intro pins s σ H x y v u Q I rx ry h
  obtain ⟨F, d, e, z, hz, rd, re, hG, q⟩ := h
  cases rd with
  | int i =>
    cases re with
    | int j => cases hG; exact op_ge pins s σ H _ _ v u Q I rx ry ⟨i, j, rfl, rfl, done0 hz q (.bl _)⟩
    | _ => cases hG
  | _ => cases hG
theorem o_is : OpR X (compareOp .Is) (rD2 X.K T isN) := by
  intro pins s σ H x y v u Q I rx ry h
  obtain ⟨F, d, e, z, hz, rd, re, hG, q⟩ := h
  cases re with
  | non => cases rd <;> cases hG <;> exact op_isN pins s σ H _ _ v u Q I rx ry ⟨rfl, done0 hz q (.bl _)⟩
  | _ => cases rd <;> cases hG
theorem o_isNot : OpR X (compareOp .IsNot) (rD2 X.K T isNotN) := by
  intro pins s σ H x y v u Q I rx ry h
  obtain ⟨F, d, e, z, hz, rd, re, hG, q⟩ := h
  cases re with
  | non => cases rd <;> cases hG <;> exact op_notN pins s σ H _ _ v u Q I rx ry ⟨rfl, done0 hz q (.bl _)⟩
  | _ => cases rd <;> cases hG
end
end DN
namespace DN
open PySem PySem.Spec PyProof.Rows L2
open LamX (Tabs ExtN)

/-! ### tests, and, or, not, chains -/
def andQ (f g : Rho → Res Bool) : Rho → Res Bool := fun ρ => (f ρ).bind fun b => if b = true then g ρ else .ok false
def orQ (f g : Rho → Res Bool) : Rho → Res Bool := fun ρ => (f ρ).bind fun b => if b = true then .ok true else g ρ
def notQ (f : Rho → Res Bool) : Rho → Res Bool := fun ρ => (f ρ).bind fun b => .ok (!b)
def andE (f g : Rho → Res D) : Rho → Res D := fun ρ => (f ρ).bind fun d => (ans d).bind fun b => if b = true then g ρ else .ok (.bl false)
def orE (f g : Rho → Res D) : Rho → Res D := fun ρ => (f ρ).bind fun d => (ans d).bind fun b => if b = true then .ok (.bl true) else g ρ
def notE (f : Rho → Res D) : Rho → Res D := fun ρ => (f ρ).bind fun d => (ans d).bind fun b => .ok (.bl (!b))
def chn (G G' : D → D → Option D) (f g h : Rho → Res D) : Rho → Res D := fun ρ => (f ρ).bind fun d => (g ρ).bind fun e => (ofO (G d e)).bind fun z => (ans z).bind fun k => if k = true then (h ρ).bind fun c => ofO (G' e c) else .ok (.bl false)
section
variable {X : Cx} {T : List (Addr × Str)} {W : WX}
theorem q_val {e : Expr} {f : Rho → Res D} (h : DE X T W e f) (he : ∀ whole, isTrue e X.env whole = (do let v ← whole; standAt e.pos; holding [v] (truthy v)) := by intro _; rfl) : DQ X T W e (tst f) :=
  (pt_val h he).to fun _ _ _ h => tst_to h
theorem w_and1 {a : Expr} {pos : Pos} {f : Rho → Res Bool} (h : DQ X T W a f) : DW X T W (.BoolOp .And [a] pos) f := pw_and1 h
theorem w_or1 {a : Expr} {pos : Pos} {f : Rho → Res Bool} (h : DQ X T W a f) : DW X T W (.BoolOp .Or [a] pos) f := pw_or1 h
theorem w_and {a b : Expr} {rest : List Expr} {pos : Pos} {f g : Rho → Res Bool} (h : DQ X T W a f) (h2 : DW X T W (.BoolOp .And (b :: rest) pos) g) : DW X T W (.BoolOp .And (a :: b :: rest) pos) (andQ f g) :=
  (pw_and h h2).to fun σ H Q ⟨ρ, F, a, h⟩ => by
    refine ⟨ρ, F, a, (aft.bind (R := RBool) h).imp fun d _ v F1 H1 _ _ q => ?_⟩
    obtain ⟨b, F2, _, n, rv, q⟩ := q
    obtain rfl : v = b := rv
    cases v with
    | true => exact ⟨ρ, F2, a.nx n, q⟩
    | false => exact q.ok (Nx.refl n.z) rfl
theorem w_or {a b : Expr} {rest : List Expr} {pos : Pos} {f g : Rho → Res Bool} (h : DQ X T W a f) (h2 : DW X T W (.BoolOp .Or (b :: rest) pos) g) : DW X T W (.BoolOp .Or (a :: b :: rest) pos) (orQ f g) :=
  (pw_or h h2).to fun σ H Q ⟨ρ, F, a, h⟩ => by
    refine ⟨ρ, F, a, (aft.bind (R := RBool) h).imp fun d _ v F1 H1 _ _ q => ?_⟩
    obtain ⟨b, F2, _, n, rv, q⟩ := q
    obtain rfl : v = b := rv
    cases v with
    | true => exact q.ok (Nx.refl n.z) rfl
    | false => exact ⟨ρ, F2, a.nx n, q⟩
theorem q_w {e : Expr} {f : Rho → Res Bool} (h : DW X T W e f) : DQ X T W e f := PW.pt h
theorem q_not {a : Expr} {pos : Pos} {f : Rho → Res Bool} (h : DQ X T W a f) : DQ X T W (.UnaryOp .Not a pos) (notQ f) :=
  (pt_not h).to fun σ H Q ⟨ρ, F, a, h⟩ => by
    refine ⟨ρ, F, a, (aft.bind (R := RBool) h).imp fun d _ v F1 H1 _ _ q => ?_⟩
    obtain ⟨b, F2, _, n, rv, q⟩ := q
    obtain rfl : v = b := rv
    exact q.ok (Nx.refl n.z) rfl
theorem e_one {op} {a : Expr} {pos : Pos} {f : Rho → Res D} (h : DE X T W a f) : DE X T W (.BoolOp op [a] pos) f := pe_one h
theorem bool_of {K : PySem.W.Frag} {σ : L2.St} {F H : Hp} {α β : Type} {R : Hp → α → β → Prop} {Q : α → Hp → Prop} {d : D} {v : V} {k : Bool → Res β} (rv : Rp K F v d) (q : aft R K T W σ F H Q ((ans d).bind k)) : ∃ c, v = .bl c ∧ d = .bl c ∧ aft R K T W σ F H Q (k c) := by
  cases rv with
  | bl c => exact ⟨c, rfl, rfl, q⟩
  | _ => exact q.elim
theorem e_and {a b : Expr} {rest : List Expr} {pos : Pos} {f g : Rho → Res D} (h : DE X T W a f) (h2 : DE X T W (.BoolOp .And (b :: rest) pos) g) : DE X T W (.BoolOp .And (a :: b :: rest) pos) (andE f g) :=
  (pe_and h h2).to fun σ H Q ⟨ρ, F, a, h⟩ => by
    refine ⟨ρ, F, a, (aft.bind (R := Rp X.K) h).imp fun d _ v F1 H1 _ _ q => ?_⟩
    obtain ⟨b, F2, _, n, rv, q⟩ := q
    obtain ⟨c, rfl, rfl, q⟩ := bool_of rv q
    refine ⟨c, rfl, ?_⟩
    cases c with
    | true => exact ⟨ρ, F2, a.nx n, q⟩
    | false => exact q.ok (Nx.refl n.z) (.bl false)
theorem e_or {a b : Expr} {rest : List Expr} {pos : Pos} {f g : Rho → Res D} (h : DE X T W a f) (h2 : DE X T W (.BoolOp .Or (b :: rest) pos) g) : DE X T W (.BoolOp .Or (a :: b :: rest) pos) (orE f g) :=
  (pe_or h h2).to fun σ H Q ⟨ρ, F, a, h⟩ => by
    refine ⟨ρ, F, a, (aft.bind (R := Rp X.K) h).imp fun d _ v F1 H1 _ _ q => ?_⟩
    obtain ⟨b, F2, _, n, rv, q⟩ := q
    obtain ⟨c, rfl, rfl, q⟩ := bool_of rv q
    refine ⟨c, rfl, ?_⟩
    cases c with
    | true => exact q.ok (Nx.refl n.z) (.bl true)
    | false => exact ⟨ρ, F2, a.nx n, q⟩
theorem chn_to {G G' : D → D → Option D} {K : PySem.W.Frag} {f g h : Rho → Res D} {σ : L2.St} {H : Hp} {Q : VK} (hh : tE K T W (chn G G' f g h) σ H Q) : tChain (rD2 K T G) (rD2 K T G') (tE K T W f) (tE K T W g) (tE K T W h) σ H Q := by
  obtain ⟨ρ, F, a, h⟩ := hh
  refine ⟨ρ, F, a, (aft.bind (R := Rp K) h).imp fun d _ v F1 H1 _ _ q => ?_⟩
  obtain ⟨b, F2, _, n, rv, q⟩ := q
  refine ⟨ρ, F2, a.nx n, (aft.bind (R := Rp K) q).imp fun ds _ vs F3 H3 _ _ q => ?_⟩
  obtain ⟨e, F4, _, n2, rs, q⟩ := q
  have q1 := aft.bind (R := Rp K) q
  obtain ⟨z, hz, q2⟩ := ofO_ok q1
  refine ⟨F4, b, e, z, n2.z, rv.mono n2.f, rs, hz, fun v' F' H' n3 rz => ?_⟩
  obtain ⟨z', F5, ez, n4, rz', q3⟩ := q2 v' F' H' n3 rz
  rw [hz] at ez
  obtain rfl : z = z' := by injection ez
  obtain ⟨k, rfl, rfl, q4⟩ := bool_of rz' q3
  refine ⟨k, rfl, ?_⟩
  cases k with
  | false => exact q4.ok (Nx.refl n4.z) (.bl false)
  | true =>
    refine ⟨ρ, F5, (a.nx (n.trans (n2.trans n4))), (aft.bind (R := Rp K) q4).imp fun c _ w F6 H6 _ _ q => ?_⟩
    obtain ⟨c', F7, _, n5, rc, q⟩ := q
    obtain ⟨z2, hz2, q⟩ := ofO_ok q
    exact ⟨F7, e, c', z2, n5.z, rs.mono (n4.trans n5).f, rc, hz2, q⟩
theorem q_chn {op op' : CmpOp} {G G' : D → D → Option D} {a b c : Expr} {f g h : Rho → Res D} {pos : Pos} (ho : OpR X (compareOp op) (rD2 X.K T G)) (ho' : OpR X (compareOp op') (rD2 X.K T G')) (ha : DE X T W a f) (hb : DE X T W b g) (hc : DE X T W c h)
    (hm : lastMarks [op, op'] [b, c] = false := by with_unfolding_all rfl) : DQ X T W (.Compare a [op, op'] [b, c] pos) (tst (chn G G' f g h)) :=
  (pt_chain ho ho' ha hb hc hm).to fun σ H Q h => by
    have h2 := tst_to h
    exact chn_to h2
end

/-! ### displays, subscripts, slices -/
def mkT (f : Rho → Res (List D)) : Rho → Res D := fun ρ => (f ρ).bind fun ds => if ds.length ≤ sizeLine then .ok (.tup ds) else .bad
def mkL (f : Rho → Res (List D)) : Rho → Res D := fun ρ => (f ρ).bind fun ds => if ds.length ≤ sizeLine then .ok (.lst ds) else .bad
def ixD : D → D → Option D
  | .tup xs, .int i => atI xs i
  | .lst xs, .int i => atI xs i
  | .arr ns, .int i => (atI ns i).map .int
  | .str x, .int i => if x.length ≤ sizeLine then (atI x.cps.toList i).map fun c => .str ⟨#[c]⟩ else none
  | _, _ => none
def cutD (xs : List D) (lo hi : Option Int) : List D := (xs.drop (HT.sIx xs.length 0 lo)).take (HT.sIx xs.length xs.length hi - HT.sIx xs.length 0 lo)
def slD : D → Option Int → Option Int → Option D
  | .tup xs, lo, hi => some (.tup (cutD xs lo hi))
  | .lst xs, lo, hi => some (.lst (cutD xs lo hi))
  | .str x, lo, hi => if x.length ≤ sizeLine then some (.str (cutS x lo hi)) else none
  | _, _, _ => none
def pno : Rho → Res (Option Int) := fun _ => .ok none
def intO : D → Res (Option Int)
  | .int i => .ok (some i)
  | _ => .bad
def psm (f : Rho → Res D) : Rho → Res (Option Int) := fun ρ => (f ρ).bind intO
def slc (f : Rho → Res D) (g h : Rho → Res (Option Int)) : Rho → Res D := fun ρ => (f ρ).bind fun d => (g ρ).bind fun lo => (h ρ).bind fun hi => ofO (slD d lo hi)
section
variable {X : Cx} {T : List (Addr × Str)} {W : WX}
theorem e_tup {es : List Expr} {x1} {pos : Pos} {f : Rho → Res (List D)} (h : DA X T W es f) : DE X T W (.Tuple es x1 pos) (mkT f) :=
  (pe_tup h).to fun σ H Q ⟨ρ, F, a, h⟩ => by
    refine ⟨ρ, F, a, (aft.bind (R := RpAll X.K) h).imp fun d _ v F1 H1 _ _ q => ?_⟩
    obtain ⟨ds, F2, _, n, rv, q⟩ := q
    have q : aft (Rp X.K) X.K T W σ F2 H1 Q (if ds.length ≤ sizeLine then .ok (.tup ds) else .bad) := q
    split at q
    · rename_i hl
      exact ⟨by rw [rv.length]; exact hl, fun p hp => q _ _ _ (Nx.push n.z hp ntT) (rp_tup n.z hp rv)⟩
    · exact q.elim
theorem e_lst {es : List Expr} {pos : Pos} {f : Rho → Res (List D)} (h : DA X T W es f) : DE X T W (.List es pos) (mkL f) :=
  (pe_lst h).to fun σ H Q ⟨ρ, F, a, h⟩ => by
    refine ⟨ρ, F, a, (aft.bind (R := RpAll X.K) h).imp fun d _ v F1 H1 _ _ q => ?_⟩
    obtain ⟨ds, F2, _, n, rv, q⟩ := q
    have q : aft (Rp X.K) X.K T W σ F2 H1 Q (if ds.length ≤ sizeLine then .ok (.lst ds) else .bad) := q
    split at q
    · rename_i hl
      exact ⟨by rw [rv.length]; exact hl, fun p hp => q _ _ _ (Nx.push n.z hp ntL) (rp_lst n.z hp rv)⟩
    · exact q.elim
theorem atI_get {K : PySem.W.Frag} {F : Hp} {xs : List V} {ds : List D} {i : Int} {d : D} (r : RpAll K F xs ds) (h : atI ds i = some d) : ∃ v, atI xs i = some v ∧ Rp K F v d := by
  unfold atI at h ⊢
  rw [r.length]
  cases e : ixN ds.length i with
  | none => rw [e] at h; cases h
  | some j =>
    rw [e] at h
    exact r.get h
theorem atI_int {ns : List Int} {i : Int} {z : D} (h : (atI ns i).map D.int = some z) : ∃ n, atI (ns.map V.int) i = some (.int n) ∧ z = .int n := by
  unfold atI at h ⊢
  rw [List.length_map]
  cases e : ixN ns.length i with
  | none => rw [e] at h; cases h
  | some j =>
    rw [e] at h
    have h : (ns[j]?).map D.int = some z := h
    show ∃ n, (ns.map V.int)[j]? = some (.int n) ∧ z = .int n
    rw [List.getElem?_map]
    cases q : ns[j]? with
    | none => rw [q] at h; cases h
    | some n =>
      rw [q] at h
      cases h
      exact ⟨n, rfl, rfl⟩
theorem x_ix : IxR X (rD2 X.K T ixD) := by
  intro value slice pins s σ H x y v u Q I rx ry h hs
  obtain ⟨F, d, e, z, hz, rd, re, hG, q⟩ := h
  cases rd with
  | tup h1 r1 =>
    cases re with
    | int i =>
      obtain ⟨w, hw, rw'⟩ := atI_get r1 hG
      exact ix_tup value slice pins s σ H _ _ v u Q I rx ry ⟨_, _, i, w, rfl, rfl, hz.sub.st h1, hw, done0 hz q rw'⟩ hs
    | _ => cases hG
  | lst h1 r1 =>
    cases re with
    | int i =>
      obtain ⟨w, hw, rw'⟩ := atI_get r1 hG
      exact ix_list value slice pins s σ H _ _ v u Q I rx ry ⟨_, _, i, w, rfl, rfl, SqL.of (hz.sub _ _ h1), hw, done0 hz q rw'⟩ hs
    | _ => cases hG
  | arr h1 =>
    cases re with
    | int i =>
      obtain ⟨n, hn, rfl⟩ := atI_int hG
      exact ix_list value slice pins s σ H _ _ v u Q I rx ry ⟨_, _, i, .int n, rfl, rfl, hz.sub.sl h1, hn, done0 hz q (.int n)⟩ hs
    | _ => cases hG
  | str x =>
    cases re with
    | int i =>
      have hG : (if x.length ≤ sizeLine then (atI x.cps.toList i).map fun c => D.str ⟨#[c]⟩ else none) = some z := hG
      split at hG
      · rename_i hl
        cases e : atI x.cps.toList i with
        | none => rw [e] at hG; cases hG
        | some c =>
          rw [e] at hG
          cases hG
          exact ix_str value slice pins s σ H _ _ v u Q I rx ry ⟨x, i, c, rfl, rfl, hl, e, done0 hz q (.str _)⟩ hs
      · cases hG
    | _ => cases hG
  | _ => cases hG
theorem e_ix {a b : Expr} {f g : Rho → Res D} {pos : Pos} (ha : DE X T W a f) (hb : DE X T W b g) (hs : PlainIx b := by exact fun _ _ => rfl) : DE X T W (.Subscript a b pos) (bop ixD f g) :=
  (pe_ix x_ix ha hb hs).to fun _ _ _ h => bin_to h
abbrev DO (X : Cx) (T : List (Addr × Str)) (W : WX) (e : Option Expr) (f : Rho → Res (Option Int)) : Prop := PO X e (tG (fun _ _ a b => a = b) X.K T W f)
theorem _root_.L2.PO.to {X : Cx} {e : Option Expr} {t u : TO} (h : PO X e t) (k : ∀ σ H Q, u σ H Q → t σ H Q) : PO X e u := ⟨fun pins s σ H Q I q => h.run pins s σ H Q I (k σ H Q q)⟩
theorem p_none : DO X T W none pno := po_none.to fun σ H Q ⟨ρ, F, a, h⟩ => h _ F H (Nx.refl a.z) rfl
theorem p_some {e : Expr} {f : Rho → Res D} (h : DE X T W e f) : DO X T W (some e) (psm f) :=
  (po_some h).to fun σ H Q ⟨ρ, F, a, h⟩ => by
    refine ⟨ρ, F, a, (aft.bind (R := Rp X.K) h).imp fun d _ v F1 H1 _ _ q => ?_⟩
    obtain ⟨b, F2, _, n, rv, q⟩ := q
    cases rv with
    | int i => exact ⟨i, rfl, q.ok (Nx.refl n.z) rfl⟩
    | _ => exact q.elim
theorem RpAll.cut {K : PySem.W.Frag} {F : Hp} {xs : List V} {ds : List D} (r : RpAll K F xs ds) (lo hi : Option Int) : RpAll K F (cutV xs lo hi) (cutD ds lo hi) := by
  unfold cutV cutD
  rw [r.length]
  exact (r.drop _).take _
theorem cut_whole {ds : List D} {lo hi : Option Int} (h : HT.sIx ds.length 0 lo = 0 ∧ HT.sIx ds.length ds.length hi = ds.length) : cutD ds lo hi = ds := by
  unfold cutD
  rw [h.1, h.2]
  simp
def rSlD (K : PySem.W.Frag) (T : List (Addr × Str)) : V → Option Int → Option Int → Hp → VK → Prop := fun x lo hi H Q =>
  ∃ F d z, Fz F H ∧ Rp K F x d ∧ slD d lo hi = some z ∧ ∀ v F' H', Nx T F H F' H' → Rp K F' v z → Q v H'
theorem x_sl : SlR X (rSlD X.K T) := by
  intro pins s σ H x v vl vu lo hi sl Q I rx hs pl pu h
  obtain ⟨F, d, z, hz, rd, hG, q⟩ := h
  cases rd with
  | tup h1 r1 =>
    cases hG
    refine sl_tupA pins s σ H _ v vl vu lo hi sl Q I rx hs pl pu ⟨_, _, rfl, hz.sub.st h1, fun hw => ?_, fun _ p hp => donep hz hp ntT q (rp_tup hz hp (r1.cut lo hi))⟩
    rw [r1.length] at hw
    rw [cut_whole hw] at q
    exact done0 hz q (.tup h1 r1)
  | lst h1 r1 =>
    cases hG
    exact sl_list pins s σ H _ v vl vu lo hi sl Q I rx hs pl pu ⟨_, _, rfl, SqL.of (hz.sub _ _ h1), fun p hp => donep hz hp ntL q (rp_lst hz hp (r1.cut lo hi))⟩
  | str x =>
    have hG : (if x.length ≤ sizeLine then some (D.str (cutS x lo hi)) else none) = some z := hG
    split at hG
    · rename_i hl
      cases hG
      exact sl_str pins s σ H _ v vl vu lo hi sl Q I rx hs pl pu ⟨x, rfl, hl, done0 hz q (.str _)⟩
    · cases hG
  | _ => cases hG
theorem e_sl {e : Expr} {lo hi : Option Expr} {f : Rho → Res D} {g h : Rho → Res (Option Int)} {p2 pos : Pos} (he : DE X T W e f) (hl : DO X T W lo g) (hh : DO X T W hi h) : DE X T W (.Subscript e (.Slice lo hi none p2) pos) (slc f g h) :=
  (pe_slice x_sl he hl hh).to fun σ H Q ⟨ρ, F, a, h⟩ => by
    refine ⟨ρ, F, a, (aft.bind (R := Rp X.K) h).imp fun d _ v F1 H1 _ _ q => ?_⟩
    obtain ⟨b, F2, _, n, rv, q⟩ := q
    refine ⟨ρ, F2, a.nx n, (aft.bind (R := fun _ a b => a = b) q).imp fun lo _ v' F3 H3 _ _ q => ?_⟩
    obtain ⟨lo', F4, _, n2, rl, q⟩ := q
    subst rl
    refine ⟨ρ, F4, a.nx (n.trans n2), (aft.bind (R := fun _ a b => a = b) q).imp fun hi _ v'' F5 H5 _ _ q => ?_⟩
    obtain ⟨hi', F6, _, n3, rh, q⟩ := q
    subst rh
    obtain ⟨z, hz, q⟩ := ofO_ok q
    exact ⟨F6, b, z, n3.z, rv.mono (n2.trans n3).f, hz, q⟩
end

/-! ### calls of built-ins -/
section
variable {X : Cx} {T : List (Addr × Str)} {W : WX}
theorem cal_to {K : PySem.W.Frag} {G : List D → Option D} {f : Rho → Res (List D)} {σ : L2.St} {H : Hp} {Q : VK} (h : tE K T W (cal G f) σ H Q) : tCB (rDn K T G) (tA K T W f) σ H Q := by
  obtain ⟨ρ, F, a, h⟩ := h
  refine ⟨ρ, F, a, (aft.bind (R := RpAll K) h).imp fun d _ v F1 H1 _ _ q => ?_⟩
  obtain ⟨b, F2, _, n, rv, q⟩ := q
  obtain ⟨z, hz, q⟩ := ofO_ok q
  exact ⟨F2, b, z, n.z, rv, hz, q⟩
theorem e_callB {id : String} {x : Str} {G : List D → Option D} {e : Expr} {es : List Expr} {p pos : Pos} {f : Rho → Res (List D)} (hc : CallR X (.builtin id) (rDn X.K T G)) (hg : Gl X x) (hm : X.mg x = none) (hv : bootBuiltins x = some (.builtin id)) (ha : DA X T W (e :: es) f)
    (hn : x ≠ "__name__" := by decide) (hdb : (x == ("__debug__" : Str)) = false := by decide) (hpl : starEach (e :: es) X.env = (false, eval e X.env) :: starEach es X.env := by rfl) (hpl2 : (backTo pos (starEach es X.env)).any (·.1) = false := by rfl) : DE X T W (.Call (.Name x p) (e :: es) [] pos) (cal G f) :=
  (pe_callB hc hg hm hv ha hn hdb hpl hpl2).to fun _ _ _ h => cal_to h
theorem e_callTy {T' : String} {x : Str} {G : List D → Option D} {e : Expr} {es : List Expr} {p pos : Pos} {f : Rho → Res (List D)} (hc : CallR X (.type T') (rDn X.K T G)) (hg : Gl X x) (hm : X.mg x = none) (hv : bootBuiltins x = some (.type T')) (ha : DA X T W (e :: es) f)
    (hn : x ≠ "__name__" := by decide) (hdb : (x == ("__debug__" : Str)) = false := by decide) (hpl : starEach (e :: es) X.env = (false, eval e X.env) :: starEach es X.env := by rfl) (hpl2 : (backTo pos (starEach es X.env)).any (·.1) = false := by rfl) : DE X T W (.Call (.Name x p) (e :: es) [] pos) (cal G f) :=
  (pe_callTy hc hg hm hv ha hn hdb hpl hpl2).to fun _ _ _ h => cal_to h
end
def lenD : List D → Option D
  | [.str x] => if x.length ≤ sizeLine then some (.int x.length) else none
  | [.tup xs] => some (.int xs.length)
  | [.lst xs] => some (.int xs.length)
  | [.arr ns] => some (.int ns.length)
  | _ => none
def absD : List D → Option D
  | [.int i] => some (.int (if i < 0 then -i else i))
  | _ => none
def maxD : List D → Option D
  | [.int i, .int j] => some (.int (if j > i then j else i))
  | _ => none
def minD : List D → Option D
  | [.int i, .int j] => some (.int (if j < i then j else i))
  | _ => none
def intD : List D → Option D
  | [.int i] => some (.int i)
  | [.bl k] => some (.int (if k then 1 else 0))
  | [.str x] => if x.length ≤ 640 then (PySem.intText? x).map .int else none
  | _ => none
def strD : List D → Option D
  | [.int i] => if i.natAbs.log2 < 1920 then some (.str (toString i)) else none
  | _ => none
def tyD : D → Option String
  | .non => some "NoneType"
  | .bl _ => some "bool"
  | .int _ => some "int"
  | .str _ => some "str"
  | .lst _ => some "list"
  | .tup _ => some "tuple"
  | _ => none
def isiD : List D → Option D
  | [d, .ty n] => (tyD d).bind fun t => (kitB t n).map .bl
  | _ => none
section
variable {X : Cx} {T : List (Addr × Str)} {W : WX}
theorem all1 {K : PySem.W.Frag} {F : Hp} {xs : List V} {d : D} (r : RpAll K F xs [d]) : ∃ v, xs = [v] ∧ Rp K F v d := by
  cases r with
  | cons h t => cases t; exact ⟨_, rfl, h⟩
theorem all2 {K : PySem.W.Frag} {F : Hp} {xs : List V} {d e : D} (r : RpAll K F xs [d, e]) : ∃ v w, xs = [v, w] ∧ Rp K F v d ∧ Rp K F w e := by
  cases r with
  | cons h t =>
    obtain ⟨w, rfl, h2⟩ := all1 t
    exact ⟨_, w, rfl, h, h2⟩
theorem c_len : CallR X (.builtin "len") (rDn X.K T lenD) := by
  intro pins s σ H xs us Q I r h
  obtain ⟨F, ds, z, hz, rs, hG, q⟩ := h
  unfold lenD at hG
  split at hG
  · rename_i x
    obtain ⟨v, rfl, rv⟩ := all1 rs
    cases rv
    split at hG
    · rename_i hl
      cases hG
      exact call_len_str pins s σ H _ us Q I r ⟨x, rfl, hl, done0 hz q (.int _)⟩
    · cases hG
  · obtain ⟨v, rfl, rv⟩ := all1 rs
    cases hG
    cases rv with
    | tup h1 r1 => exact call_len_seq pins s σ H _ us Q I r ⟨_, _, rfl, .inr (hz.sub.st h1), by rw [r1.length]; exact done0 hz q (.int _)⟩
  · obtain ⟨v, rfl, rv⟩ := all1 rs
    cases hG
    cases rv with
    | lst h1 r1 => exact call_len_seq pins s σ H _ us Q I r ⟨_, _, rfl, .inl (SqL.of (hz.sub _ _ h1)), by rw [r1.length]; exact done0 hz q (.int _)⟩
  · obtain ⟨v, rfl, rv⟩ := all1 rs
    cases hG
    cases rv with
    | arr h1 => exact call_len_seq pins s σ H _ us Q I r ⟨_, _, rfl, .inl (hz.sub.sl h1), by rw [List.length_map]; exact done0 hz q (.int _)⟩
  · cases hG
theorem c_abs : CallR X (.builtin "abs") (rDn X.K T absD) := by
  intro pins s σ H xs us Q I r h
  obtain ⟨F, ds, z, hz, rs, hG, q⟩ := h
  unfold absD at hG
  split at hG
  · obtain ⟨v, rfl, rv⟩ := all1 rs
    cases rv
    cases hG
    exact call_abs pins s σ H _ us Q I r ⟨_, rfl, done0 hz q (.int _)⟩
  · cases hG
theorem c_max (hc : X.calm = true) : CallR X (.builtin "max") (rDn X.K T maxD) := by
  intro pins s σ H xs us Q I r h
  obtain ⟨F, ds, z, hz, rs, hG, q⟩ := h
  unfold maxD at hG
  split at hG
  · obtain ⟨v, w, rfl, rv, rw'⟩ := all2 rs
    cases rv
    cases rw'
    cases hG
    exact call_max2 hc pins s σ H _ us Q I r ⟨_, _, rfl, done0 hz q (.int _)⟩
  · cases hG
theorem c_min (hc : X.calm = true) : CallR X (.builtin "min") (rDn X.K T minD) := by
  intro pins s σ H xs us Q I r h
  obtain ⟨F, ds, z, hz, rs, hG, q⟩ := h
  unfold minD at hG
  split at hG
  · obtain ⟨v, w, rfl, rv, rw'⟩ := all2 rs
    cases rv
    cases rw'
    cases hG
    exact call_min2 hc pins s σ H _ us Q I r ⟨_, _, rfl, done0 hz q (.int _)⟩
  · cases hG
theorem c_int : CallR X (.type "int") (rDn X.K T intD) := by
  intro pins s σ H xs us Q I r h
  obtain ⟨F, ds, z, hz, rs, hG, q⟩ := h
  unfold intD at hG
  split at hG
  · obtain ⟨v, rfl, rv⟩ := all1 rs
    cases rv
    cases hG
    exact call_int1 pins s σ H _ us Q I r (.inl ⟨_, rfl, done0 hz q (.int _)⟩)
  · obtain ⟨v, rfl, rv⟩ := all1 rs
    cases rv
    cases hG
    exact call_int1 pins s σ H _ us Q I r (.inr ⟨_, rfl, done0 hz q (.int _)⟩)
  · rename_i x
    obtain ⟨v, rfl, rv⟩ := all1 rs
    cases rv
    split at hG
    · rename_i hl
      cases e : PySem.intText? x with
      | none => rw [e] at hG; cases hG
      | some n =>
        rw [e] at hG
        cases hG
        exact call_int_str pins s σ H _ us Q I r ⟨x, n, rfl, e, hl, done0 hz q (.int _)⟩
    · cases hG
  · cases hG
theorem c_str : CallR X (.type "str") (rDn X.K T strD) := by
  intro pins s σ H xs us Q I r h
  obtain ⟨F, ds, z, hz, rs, hG, q⟩ := h
  unfold strD at hG
  split at hG
  · obtain ⟨v, rfl, rv⟩ := all1 rs
    cases rv
    split at hG
    · rename_i hl
      cases hG
      exact call_str_int pins s σ H _ us Q I r ⟨_, rfl, hl, done0 hz q (.str _)⟩
    · cases hG
  · cases hG
theorem ty_of {K : PySem.W.Frag} {F H : Hp} {v : V} {d : D} {t : String} (hz : Fz F H) (r : Rp K F v d) (h : tyD d = some t) : TyX K H v (.type t) := by
  cases r with
  | non => cases h; exact .base .non
  | bl b => cases h; exact .base (.bl b)
  | int i => cases h; exact .base (.int i)
  | str x => cases h; exact .base (.str x)
  | lst h1 _ => cases h; exact .base (.lst (hz.sub _ _ h1))
  | tup h1 _ =>
    cases h
    rcases h1 with (h1 | ⟨o, h1⟩) | ⟨o, its, n, hk, hc, _⟩
    · exact .base (.tup (hz.sub _ _ h1))
    · exact .fTuple (hz.sub _ _ h1)
    · exact .kTuple hk hc
  | _ => cases h
theorem c_isi : CallR X (.builtin "isinstance") (rDn X.K T isiD) := by
  intro pins s σ H xs us Q I r h
  obtain ⟨F, ds, z, hz, rs, hG, q⟩ := h
  unfold isiD at hG
  split at hG
  · rename_i d n
    obtain ⟨v, w, rfl, rv, rw'⟩ := all2 rs
    cases rw'
    cases e : tyD d with
    | none => rw [e] at hG; cases hG
    | some t =>
      rw [e] at hG
      have hG : (kitB t n).map D.bl = some z := hG
      cases e2 : kitB t n with
      | none => rw [e2] at hG; cases hG
      | some b =>
        rw [e2] at hG
        cases hG
        exact call_isi pins s σ H _ us Q I r ⟨v, _, _, _, b, rfl, .ty n, ty_of hz rv e, kit_ty e2, done0 hz q (.bl b)⟩
  · cases hG
end
end DN
namespace DN
open PySem PySem.Spec PyProof.Rows L2
open LamX (Tabs ExtN)

/-! ### == and != of data -/
def flatD : D → Bool
  | .non => true
  | .bl _ => true
  | .int _ => true
  | .str _ => true
  | _ => false
mutual
def eqd : D → D → Bool
  | .non, .non => true
  | .bl a, .bl b => a == b
  | .bl a, .int j => (if a then 1 else 0) == j
  | .int i, .bl b => i == (if b then 1 else 0)
  | .int i, .int j => i == j
  | .str x, .str y => x == y
  | .lst xs, .lst ys => eqds xs ys
  | .tup xs, .tup ys => eqds xs ys
  | _, _ => false
def eqds : List D → List D → Bool
  | [], [] => true
  | x :: xs, y :: ys => eqd x y && eqds xs ys
  | _, _ => false
end
mutual
/-- plain data that is no deeper than n -/
def plain : Nat → D → Bool
  | _, .non => true
  | _, .bl _ => true
  | _, .int _ => true
  | _, .str x => PyData.strOk x
  | n + 1, .lst xs => plains n xs
  | n + 1, .tup xs => plains n xs
  | _, _ => false
def plains : Nat → List D → Bool
  | _, [] => true
  | n, x :: xs => plain n x && plains n xs
end
mutual
def pyO : D → PyData
  | .non => .none
  | .bl b => .bool b
  | .int i => .int i
  | .str x => .str x
  | .lst xs => .list (pyA xs)
  | .tup xs => .tuple (pyA xs)
  | _ => .none
def pyA : List D → List PyData
  | [] => []
  | x :: xs => pyO x :: pyA xs
end
mutual
theorem plain_py {K : PySem.W.Frag} {H : Hp} : ∀ (n : Nat) (d : D) (v : V), plain n d = true → Rp K H v d → Dp K H v (pyO d) ∧ (pyO d).canLay0 = true ∧ (pyO d).depth ≤ n
  | n, .non, _, _, .non => by
    unfold pyO
    exact ⟨.non, by simp [PyData.canLay0], by simp [PyData.depth]⟩
  | n, .bl b, _, _, .bl _ => by
    unfold pyO
    exact ⟨.bl b, by simp [PyData.canLay0], by simp [PyData.depth]⟩
  | n, .int b, _, _, .int _ => by
    unfold pyO
    exact ⟨.int b, by simp [PyData.canLay0], by simp [PyData.depth]⟩
  | n, .str b, _, h, .str _ => by
    unfold plain at h
    unfold pyO
    exact ⟨.str b, by simpa [PyData.canLay0] using h, by simp [PyData.depth]⟩
  | n + 1, .lst xs, _, h, .lst h1 r => by
    unfold plain at h
    obtain ⟨a, b, c⟩ := plains_py n xs _ h r
    unfold pyO
    exact ⟨.lst (SqL.of h1) a, by simpa [PyData.canLay0] using b, by simp only [PyData.depth]; omega⟩
  | n + 1, .tup xs, _, h, .tup h1 r => by
    unfold plain at h
    obtain ⟨a, b, c⟩ := plains_py n xs _ h r
    unfold pyO
    exact ⟨.tup h1 a, by simpa [PyData.canLay0] using b, by simp only [PyData.depth]; omega⟩
  | 0, .lst xs, _, h, _ => by simp [plain] at h
  | 0, .tup xs, _, h, _ => by simp [plain] at h
  | _, .fn _, _, h, _ => by simp [plain] at h
  | _, .ty _, _, h, _ => by simp [plain] at h
  | _, .dK _, _, h, _ => by simp [plain] at h
  | _, .dT _, _, h, _ => by simp [plain] at h
  | _, .arr _, _, h, _ => by simp [plain] at h
  | _, .pro _, _, h, _ => by simp [plain] at h
  | _, .dic _ _ _ _, _, h, _ => by simp [plain] at h
  | _, .adr _, _, h, _ => by simp [plain] at h
  | _, .ins _ _ _, _, h, _ => by simp [plain] at h
  | _, .tab _ _ _, _, h, _ => by simp [plain] at h
theorem plains_py {K : PySem.W.Frag} {H : Hp} : ∀ (n : Nat) (ds : List D) (vs : List V), plains n ds = true → RpAll K H vs ds → DpAll K H vs (pyA ds) ∧ PyData.canLayAll0 (pyA ds) = true ∧ PyData.depthAll (pyA ds) ≤ n
  | n, [], _, _, .nil => by
    unfold pyA
    exact ⟨.nil, by simp [PyData.canLayAll0], by simp [PyData.depthAll]⟩
  | n, d :: ds, _, h, .cons r t => by
    unfold plains at h
    rw [Bool.and_eq_true] at h
    obtain ⟨a, b, c⟩ := plain_py n d _ h.1 r
    obtain ⟨a2, b2, c2⟩ := plains_py n ds _ h.2 t
    unfold pyA
    exact ⟨.cons a a2, by simp [PyData.canLayAll0, b, b2], by simp only [PyData.depthAll]; omega⟩
end
mutual
theorem eqd_py : ∀ (n m : Nat) (d e : D), plain n d = true → plain m e = true → PyData.eqv (pyO d) (pyO e) = eqd d e
  | n, m, d, e, hd, he => by
    cases d <;> cases e <;> first
      | (simp only [pyO, PyData.eqv, eqd]; done)
      | (cases n <;> simp [plain] at hd; done)
      | (cases m <;> simp [plain] at he; done)
      | (cases n with
         | zero => simp [plain] at hd
         | succ n =>
           cases m with
           | zero => simp [plain] at he
           | succ m =>
             unfold plain at hd he
             simp only [pyO, PyData.eqv, eqd]
             exact eqds_py n m _ _ hd he)
theorem eqds_py : ∀ (n m : Nat) (d e : List D), plains n d = true → plains m e = true → PyData.eqvAll (pyA d) (pyA e) = eqds d e
  | n, m, [], [], _, _ => by simp [pyA, PyData.eqvAll, eqds]
  | n, m, [], _ :: _, _, _ => by simp [pyA, PyData.eqvAll, eqds]
  | n, m, _ :: _, [], _, _ => by simp [pyA, PyData.eqvAll, eqds]
  | n, m, x :: xs, y :: ys, hd, he => by
    unfold plains at hd he
    rw [Bool.and_eq_true] at hd he
    simp only [pyA, PyData.eqvAll, eqds]
    rw [eqd_py n m x y hd.1 he.1, eqds_py n m xs ys hd.2 he.2]
end
def eqOk (d e : D) : Bool := (flatD d && flatD e) || (plain 64 d && plain 64 e)
def eqD (d e : D) : Option D := if eqOk d e = true then some (.bl (eqd d e)) else none
def neD (d e : D) : Option D := if eqOk d e = true then some (.bl (!eqd d e)) else none
section
variable {X : Cx} {T : List (Addr × Str)} {W : WX}
/-- either two scalars that == tells apart, or plain data -/
theorem eq_cases {K : PySem.W.Frag} {F H : Hp} {x y : V} {d e : D} (hz : Fz F H) (rd : Rp K F x d) (re : Rp K F y e) (h : eqOk d e = true) :
    (scal x y = true ∧ decide (x = y) = eqd d e) ∨ (∃ a b, Dp K H x a ∧ Dp K H y b ∧ SeqAt.shaped a = true ∧ SeqAt.shaped b = true ∧ PyData.eqv a b = eqd d e) := by
  have deep : plain 64 d = true → plain 64 e = true → ∃ a b, Dp K H x a ∧ Dp K H y b ∧ SeqAt.shaped a = true ∧ SeqAt.shaped b = true ∧ PyData.eqv a b = eqd d e := fun hd he => by
    obtain ⟨a1, a2, a3⟩ := plain_py 64 d x hd (rd.mono hz.sub)
    obtain ⟨b1, b2, b3⟩ := plain_py 64 e y he (re.mono hz.sub)
    refine ⟨_, _, a1, b1, ?_, ?_, eqd_py 64 64 d e hd he⟩
    · unfold SeqAt.shaped
      rw [a2, decide_eq_true a3] <;> rfl
    · unfold SeqAt.shaped
      rw [b2, decide_eq_true b3] <;> rfl
  unfold eqOk at h
  rw [Bool.or_eq_true, Bool.and_eq_true, Bool.and_eq_true] at h
  rcases h with ⟨h1, h2⟩ | ⟨h1, h2⟩
  · cases rd <;> cases re <;> first
      | (cases h1; done)
      | (cases h2; done)
      | (refine .inr (deep ?_ ?_) <;> simp [plain] <;> done)
      | (refine .inl ⟨rfl, ?_⟩; simp only [eqd]; first | exact dec_str | (simp; done))
  · exact .inr (deep h1 h2)
theorem o_eq (hu : X.A.units + 64 < cLine) : OpR X (compareOp .Eq) (rD2 X.K T eqD) := by
  intro pins s σ H x y v u Q I rx ry h
  obtain ⟨F, d, e, z, hz, rd, re, hG, q⟩ := h
  unfold eqD at hG
  split at hG
  · rename_i hk
    cases hG
    rcases eq_cases hz rd re hk with ⟨h1, h2⟩ | ⟨a, b, h1, h2, h3, h4, h5⟩
    · exact op_eq pins s σ H x y v u Q I rx ry ⟨h1, by rw [h2]; exact done0 hz q (.bl _)⟩
    · exact op_eqD hu pins s σ H x y v u Q I rx ry ⟨a, b, h1, h2, h3, h4, by rw [h5]; exact done0 hz q (.bl _)⟩
  · cases hG
theorem o_ne (hu : X.A.units + 64 < cLine) : OpR X (compareOp .NotEq) (rD2 X.K T neD) := by
  intro pins s σ H x y v u Q I rx ry h
  obtain ⟨F, d, e, z, hz, rd, re, hG, q⟩ := h
  unfold neD at hG
  split at hG
  · rename_i hk
    cases hG
    rcases eq_cases hz rd re hk with ⟨h1, h2⟩ | ⟨a, b, h1, h2, h3, h4, h5⟩
    · exact op_ne pins s σ H x y v u Q I rx ry ⟨h1, by rw [h2]; exact done0 hz q (.bl _)⟩
    · exact op_neD hu pins s σ H x y v u Q I rx ry ⟨a, b, h1, h2, h3, h4, by rw [h5]; exact done0 hz q (.bl _)⟩
  · cases hG
end

/-! ### in, not in -/
def hasS (x y : Str) : Bool := if x.cps.size = 1 then decide (x.cps.getD 0 0 ∈ y.cps.toList) else !(Builtin.Str.occurrences y x 0 y.length 1).isEmpty
def inL (d : D) (xs : List D) : Option Bool := if (flatD d && xs.all flatD) = true then some (xs.any fun y => eqd y d) else if (plain 60 d && plains 60 xs) = true then some (xs.any fun y => eqd y d) else none
def inB : D → D → Option Bool
  | .str x, .str y => some (hasS x y)
  | d, .tup xs => inL d xs
  | d, .lst xs => inL d xs
  | _, _ => none
def inD (d e : D) : Option D := (inB d e).map .bl
def niD (d e : D) : Option D := (inB d e).map fun b => .bl (!b)
section
variable {X : Cx} {T : List (Addr × Str)} {W : WX}
theorem flat_rp {K : PySem.W.Frag} {F : Hp} {v : V} {d : D} (r : Rp K F v d) (h : flatD d = true) : flatV v = true := by
  cases r <;> first | rfl | cases h
theorem flat_all {K : PySem.W.Frag} {F : Hp} : ∀ {vs : List V} {ds : List D}, RpAll K F vs ds → ds.all flatD = true → vs.all flatV = true
  | _, _, .nil, _ => rfl
  | _, _, .cons r t, h => by
    rw [List.all_cons, Bool.and_eq_true] at h
    rw [List.all_cons, flat_rp r h.1, flat_all t h.2] <;> rfl
theorem eqV_eqd {K : PySem.W.Frag} {F : Hp} {v w : V} {d e : D} (r : Rp K F v d) (q : Rp K F w e) (h : flatD d = true) (h2 : flatD e = true) : eqV v w = eqd d e := by
  cases r <;> first
    | (cases h; done)
    | (cases q <;> first | (cases h2; done) | (simp [eqV, eqd]; done))
theorem inV_eq {K : PySem.W.Frag} {F : Hp} {w : V} {e : D} (q : Rp K F w e) (h2 : flatD e = true) : ∀ {vs : List V} {ds : List D}, RpAll K F vs ds → ds.all flatD = true → inV w vs = ds.any fun y => eqd y e
  | _, _, .nil, _ => rfl
  | v :: vs, d :: ds, .cons r t, h => by
    rw [List.all_cons, Bool.and_eq_true] at h
    have ih := inV_eq q h2 t h.2
    unfold inV at ih ⊢
    rw [List.any_cons, List.any_cons, ih, eqV_eqd r q h.1 h2]
theorem one_of {x : Str} (h : x.cps.size = 1) : x = ⟨#[x.cps.getD 0 0]⟩ := by
  obtain ⟨cps⟩ := x
  simp only at h ⊢
  congr 1
  apply Array.ext
  · simp [h]
  · intro i h1 h2
    have : i = 0 := by omega
    subst this
    simp [Array.getD, h]
theorem any_py (d : D) (hd : plain 60 d = true) : ∀ ds : List D, plains 60 ds = true → ((pyA ds).any fun z => PyData.eqv z (pyO d)) = ds.any fun y => eqd y d
  | [], _ => rfl
  | y :: ds, h => by
    have h : (plain 60 y && plains 60 ds) = true := h
    rw [Bool.and_eq_true] at h
    show (PyData.eqv (pyO y) (pyO d) || (pyA ds).any fun z => PyData.eqv z (pyO d)) = _
    rw [eqd_py 60 60 y d h.1 hd, any_py d hd ds h.2]
    rfl
theorem in_deep {pins : List (Addr × Obj)} {s : Shared} {σ : L2.St} {H F : Hp} {x : V} {v u : Value} {a : Addr} {xs : List V} {d : D} {ds : List D} {Q : VK} (hu : X.A.units + 64 < cLine) (I : Inv X pins σ H s) (hz : Fz F H) (rx : RelV x v) (ry : RelV (.ref a) u) (rd : Rp X.K F x d) (hs : SqT X.K F a xs ∨ F a = some (.lst xs)) (r1 : RpAll X.K F xs ds) (hd : plain 60 d = true) (hds : plains 60 ds = true) :
    (Q (.bl (ds.any fun y => eqd y d)) H → wpAny (model X.prog X.w) X.A (compareOp .In v u) (EP X pins σ Q) X.xe s) ∧ (Q (.bl (!ds.any fun y => eqd y d)) H → wpAny (model X.prog X.w) X.A (compareOp .NotIn v u) (EP X pins σ Q) X.xe s) := by
  obtain ⟨a1, a2, a3⟩ := plain_py 60 d x hd (rd.mono hz.sub)
  obtain ⟨b1, b2, b3⟩ := plains_py 60 ds xs hds (r1.mono hz.sub)
  obtain ⟨as, q1⟩ := Dp.reads I _ x v a1 rx
  have room : X.A.units + 1 + min (PyData.depthAll (pyA ds)) (pyO d).depth < cLine := by omega
  rw [← any_py d hd ds hds]
  rcases hs with hs | hs
  · have c1 : Dp X.K H (.ref a) (.tuple (pyA ds)) := Dp.tup (hz.sub.st hs) b1
    obtain ⟨bs, q2⟩ := Dp.reads I _ (.ref a) u c1 ry
    exact ⟨fun q => SeqAt.in_tuple_reads q2 q1 b2 a2 room ⟨.bl _, H, I, rfl, q⟩, fun q => SeqAt.notIn_tuple_reads q2 q1 b2 a2 room ⟨.bl _, H, I, rfl, q⟩⟩
  · have c1 : Dp X.K H (.ref a) (.list (pyA ds)) := Dp.lst (SqL.of (hz.sub _ _ hs)) b1
    obtain ⟨bs, q2⟩ := Dp.reads I _ (.ref a) u c1 ry
    exact ⟨fun q => SeqAt.in_list_reads q2 q1 b2 a2 room ⟨.bl _, H, I, rfl, q⟩, fun q => SeqAt.notIn_list_reads q2 q1 b2 a2 room ⟨.bl _, H, I, rfl, q⟩⟩
theorem o_in (hu : X.A.units + 64 < cLine) : OpR X (compareOp .In) (rD2 X.K T inD) := by
  intro pins s σ H x y v u Q I rx ry h
  obtain ⟨F, d, e, z, hz, rd, re, hG, q⟩ := h
  unfold inD at hG
  cases hb : inB d e with
  | none => rw [hb] at hG; cases hG
  | some b =>
    rw [hb] at hG
    cases hG
    cases re with
    | str y =>
      cases rd with
      | str x =>
        have hb : some (hasS x y) = some b := hb
        unfold hasS at hb
        split at hb
        · rename_i h1
          cases hb
          exact op_in_sign pins s σ H _ _ v u Q I rx ry ⟨x.cps.getD 0 0, y, congrArg V.str (one_of h1), rfl, done0 hz q (.bl _)⟩
        · cases hb
          exact op_in_str pins s σ H _ _ v u Q I rx ry ⟨x, y, rfl, rfl, done0 hz q (.bl _)⟩
      | _ => cases hb
    | tup h1 r1 =>
      rename_i a xs ds
      have hb : inL d ds = some b := by
        cases d <;> exact hb
      unfold inL at hb
      split at hb
      · rename_i hf
        rw [Bool.and_eq_true] at hf
        cases hb
        refine op_in_seq pins s σ H _ _ v u Q I rx ry ⟨a, xs, rfl, .inr (hz.sub.st h1), flat_rp rd hf.1, flat_all r1 hf.2, ?_⟩
        rw [inV_eq rd hf.1 r1 hf.2]
        exact done0 hz q (.bl _)
      · split at hb
        · rename_i hf
          rw [Bool.and_eq_true] at hf
          cases hb
          exact (in_deep hu I hz rx ry rd (.inl h1) r1 hf.1 hf.2).1 (done0 hz q (.bl _))
        · cases hb
    | lst h1 r1 =>
      rename_i a xs ds
      have hb : inL d ds = some b := by
        cases d <;> exact hb
      unfold inL at hb
      split at hb
      · rename_i hf
        rw [Bool.and_eq_true] at hf
        cases hb
        refine op_in_seq pins s σ H _ _ v u Q I rx ry ⟨a, xs, rfl, .inl (SqL.of (hz.sub _ _ h1)), flat_rp rd hf.1, flat_all r1 hf.2, ?_⟩
        rw [inV_eq rd hf.1 r1 hf.2]
        exact done0 hz q (.bl _)
      · split at hb
        · rename_i hf
          rw [Bool.and_eq_true] at hf
          cases hb
          exact (in_deep hu I hz rx ry rd (.inr h1) r1 hf.1 hf.2).1 (done0 hz q (.bl _))
        · cases hb
    | _ => cases rd <;> cases hb
theorem o_ni (hu : X.A.units + 64 < cLine) : OpR X (compareOp .NotIn) (rD2 X.K T niD) := by
  intro pins s σ H x y v u Q I rx ry h
  obtain ⟨F, d, e, z, hz, rd, re, hG, q⟩ := h
  unfold niD at hG
  cases hb : inB d e with
  | none => rw [hb] at hG; cases hG
  | some b =>
    rw [hb] at hG
    cases hG
    cases re with
    | str y =>
      cases rd with
      | str x =>
        have hb : some (hasS x y) = some b := hb
        unfold hasS at hb
        split at hb
        · rename_i h1
          cases hb
          exact op_notIn_sign pins s σ H _ _ v u Q I rx ry ⟨x.cps.getD 0 0, y, congrArg V.str (one_of h1), rfl, done0 hz q (.bl _)⟩
        · cases hb
          exact op_notin_str pins s σ H _ _ v u Q I rx ry ⟨x, y, rfl, rfl, done0 hz q (.bl _)⟩
      | _ => cases hb
    | tup h1 r1 =>
      rename_i a xs ds
      have hb : inL d ds = some b := by
        cases d <;> exact hb
      unfold inL at hb
      split at hb
      · rename_i hf
        rw [Bool.and_eq_true] at hf
        cases hb
        refine op_notIn_seq pins s σ H _ _ v u Q I rx ry ⟨a, xs, rfl, .inr (hz.sub.st h1), flat_rp rd hf.1, flat_all r1 hf.2, ?_⟩
        rw [inV_eq rd hf.1 r1 hf.2]
        exact done0 hz q (.bl _)
      · split at hb
        · rename_i hf
          rw [Bool.and_eq_true] at hf
          cases hb
          exact (in_deep hu I hz rx ry rd (.inl h1) r1 hf.1 hf.2).2 (done0 hz q (.bl _))
        · cases hb
    | lst h1 r1 =>
      rename_i a xs ds
      have hb : inL d ds = some b := by
        cases d <;> exact hb
      unfold inL at hb
      split at hb
      · rename_i hf
        rw [Bool.and_eq_true] at hf
        cases hb
        refine op_notIn_seq pins s σ H _ _ v u Q I rx ry ⟨a, xs, rfl, .inl (SqL.of (hz.sub _ _ h1)), flat_rp rd hf.1, flat_all r1 hf.2, ?_⟩
        rw [inV_eq rd hf.1 r1 hf.2]
        exact done0 hz q (.bl _)
      · split at hb
        · rename_i hf
          rw [Bool.and_eq_true] at hf
          cases hb
          exact (in_deep hu I hz rx ry rd (.inr h1) r1 hf.1 hf.2).2 (done0 hz q (.bl _))
        · cases hb
    | _ => cases rd <;> cases hb
end
end DN
namespace DN
open PySem PySem.Spec PyProof.Rows L2
open LamX (Tabs ExtN)

/-! ### statements -/
inductive SR where
  | nx (ρ : Rho) | rt (d : D) | bk (ρ : Rho) | ct (ρ : Rho) | ex (n : Str) (ρ : Rho) | bad
def bindS {α : Type} (r : Res α) (ρ : Rho) (k : α → SR) : SR := match r with
  | .ok a => k a
  | .ex n => .ex n ρ
  | .bad => .bad
/-- the frame's own objects are new since the entry -/
def Ow (H0 : Hp) (σ : L2.St) (ρ : Rho) : Prop := ∀ (i : Nat) (d : D) (p : Addr), ρ[i]? = some (En.o d) → σ[i]? = some (some (V.ref p)) → ∀ o, H0 p = some o → ∃ ps, o = .tbl ps
structure Sg (K : PySem.W.Frag) (T : List (Addr × Str)) (F0 H0 F H : Hp) (σ : L2.St) (ρ : Rho) : Prop where
  at_ : At K T F H σ ρ
  nx : Nx T F0 H0 F H
  ow : Ow H0 σ ρ
def aftS (K : PySem.W.Frag) (T : List (Addr × Str)) (W : WX) (F0 H0 F : Hp) (Z : Ends) : SR → Prop
  | .nx ρ => ∀ σ F' H', Sg K T F0 H0 F' H' σ ρ → Sub F F' → Z.nx σ H'
  | .bk ρ => ∀ σ F' H', Sg K T F0 H0 F' H' σ ρ → Sub F F' → Z.bk σ H'
  | .ct ρ => ∀ σ F' H', Sg K T F0 H0 F' H' σ ρ → Sub F F' → Z.ct σ H'
  | .rt d => ∀ v F' H', Nx T F0 H0 F' H' → Rp K F' v d → Z.rt v H'
  | .ex n ρ => ∀ σ F' H', Sg K T F0 H0 F' H' σ ρ → Sub F F' → W (.ref (He.ga K n)) none σ H'
  | .bad => False
def tS (K : PySem.W.Frag) (T : List (Addr × Str)) (W : WX) (F0 H0 : Hp) (s : Rho → SR) : TS := fun Z σ H => ∃ ρ F, Sg K T F0 H0 F H σ ρ ∧ aftS K T W F0 H0 F Z (s ρ)
abbrev DS (X : Cx) (T : List (Addr × Str)) (W : WX) (F0 H0 : Hp) (st : Stmt) (s : Rho → SR) : Prop := PS X st (tS X.K T W F0 H0 s)
abbrev DSs (X : Cx) (T : List (Addr × Str)) (W : WX) (F0 H0 : Hp) (st : List Stmt) (s : Rho → SR) : Prop := PSs X st (tS X.K T W F0 H0 s)
section
variable {K : PySem.W.Frag} {T : List (Addr × Str)} {W : WX} {F0 H0 F H F1 H1 : Hp} {σ : L2.St} {ρ : Rho} {Z : Ends}
theorem Sg.step (g : Sg K T F0 H0 F H σ ρ) (n : Nx T F H F1 H1) : Sg K T F0 H0 F1 H1 σ ρ := ⟨g.at_.nx n, g.nx.trans n, g.ow⟩
theorem aftS.mono {r : SR} (e : Sub F F1) (h : aftS K T W F0 H0 F Z r) : aftS K T W F0 H0 F1 Z r := by
  cases r with
  | nx ρ => exact fun σ F' H' g s => h σ F' H' g (e.trans s)
  | bk ρ => exact fun σ F' H' g s => h σ F' H' g (e.trans s)
  | ct ρ => exact fun σ F' H' g s => h σ F' H' g (e.trans s)
  | ex n ρ => exact fun σ F' H' g s => h σ F' H' g (e.trans s)
  | rt d => exact h
  | bad => exact h
theorem aftS.bind {α β : Type} {R : Hp → α → β → Prop} {r : Res β} {k : β → SR} (g : Sg K T F0 H0 F H σ ρ) (h : aftS K T W F0 H0 F Z (bindS r ρ k)) :
    aft R K T W σ F H (fun a H1 => ∃ b F1, r = .ok b ∧ Nx T F H F1 H1 ∧ Sg K T F0 H0 F1 H1 σ ρ ∧ R F1 a b ∧ aftS K T W F0 H0 F1 Z (k b)) r := by
  cases r with
  | ok b => exact fun a F2 H2 n ra => ⟨b, F2, rfl, n, g.step n, ra, aftS.mono n.f h⟩
  | ex m => exact fun F' H' n => h σ F' H' (g.step n) n.f
  | bad => exact h
theorem Ow.set {i : Nat} {v : V} {d : D} (o : Ow H0 σ ρ) : Ow H0 (σ.set i (some v)) (ρ.set i (.z d)) := fun j e p h1 h2 => by
  rw [List.getElem?_set] at h1 h2
  by_cases hij : i = j
  · rw [if_pos hij] at h1
    split at h1 <;> cases h1
  · rw [if_neg hij] at h1 h2
    exact o j e p h1 h2
end
def sskip : Rho → SR := fun ρ => .nx ρ
def sseq (s t : Rho → SR) : Rho → SR := fun ρ => match s ρ with
  | .nx ρ' => t ρ'
  | r => r
def sret (f : Rho → Res D) : Rho → SR := fun ρ => bindS (f ρ) ρ .rt
def sif (c : Rho → Res Bool) (s t : Rho → SR) : Rho → SR := fun ρ => bindS (c ρ) ρ fun b => if b = true then s ρ else t ρ
/-- targets -/
abbrev Tg := Rho → D → Option Rho
abbrev Tgs := Rho → List D → Option Rho
def gn (i : Nat) : Tg := fun ρ d => some (ρ.set i (.z d))
def gsn : Tgs := fun ρ ds => match ds with
  | [] => some ρ
  | _ => none
def gsc (g : Tg) (h : Tgs) : Tgs := fun ρ ds => match ds with
  | d :: r => (g ρ d).bind fun ρ' => h ρ' r
  | [] => none
def gt (n : Nat) (h : Tgs) : Tg := fun ρ d => match d with
  | .tup ds => if ds.length = n then h ρ ds else none
  | .lst ds => if ds.length = n then h ρ ds else none
  | _ => none
def sasg (f : Rho → Res D) (g : Tg) : Rho → SR := fun ρ => bindS (f ρ) ρ fun d => match g ρ d with
  | some ρ' => .nx ρ'
  | none => .bad
def tGd (K : PySem.W.Frag) (T : List (Addr × Str)) (g : Tg) : TG := fun v σ H Q => ∃ ρ F d ρ', At K T F H σ ρ ∧ Rp K F v d ∧ g ρ d = some ρ' ∧ ∀ σ', At K T F H σ' ρ' → (∀ H0, Ow H0 σ ρ → Ow H0 σ' ρ') → Q σ' H
def tGs (K : PySem.W.Frag) (T : List (Addr × Str)) (g : Tgs) : TGs := fun vs σ H Q => ∃ ρ F ds ρ', At K T F H σ ρ ∧ RpAll K F vs ds ∧ g ρ ds = some ρ' ∧ ∀ σ', At K T F H σ' ρ' → (∀ H0, Ow H0 σ ρ → Ow H0 σ' ρ') → Q σ' H
theorem _root_.L2.PG.to {X : Cx} {e : Expr} {t u : TG} (h : PG X e t) (k : ∀ v σ H Q, u v σ H Q → t v σ H Q) : PG X e u := ⟨fun pins s σ H v w Q I r q => h.run pins s σ H v w Q I r (k v σ H Q q)⟩
theorem _root_.L2.PG.or {X : Cx} {e : Expr} {t u : TG} (h : PG X e t) (h2 : PG X e u) : PG X e (fun v σ H Q => t v σ H Q ∨ u v σ H Q) := ⟨fun pins s σ H v w Q I r q => q.elim (h.run pins s σ H v w Q I r) (h2.run pins s σ H v w Q I r)⟩
theorem _root_.L2.PGs.to {X : Cx} {es : List Expr} {t u : TGs} (h : PGs X es t) (k : ∀ v σ H Q, u v σ H Q → t v σ H Q) : PGs X es u := ⟨fun pins s σ H v w Q I r q => h.run pins s σ H v w Q I r (k v σ H Q q)⟩
section
variable {X : Cx} {T : List (Addr × Str)} {W : WX} {F0 H0 : Hp}
abbrev DG (X : Cx) (T : List (Addr × Str)) (e : Expr) (g : Tg) : Prop := PG X e (tGd X.K T g)
abbrev DGs (X : Cx) (T : List (Addr × Str)) (es : List Expr) (g : Tgs) : Prop := PGs X es (tGs X.K T g)
theorem g_name {i : Nat} {e : Expr} (h : PG X e (gName i)) : DG X T e (gn i) := h.to fun v σ H Q ⟨ρ, F, d, ρ', a, r, hg, q⟩ => by
  cases hg
  exact q _ ⟨a.z, a.t, a.r.set r⟩ fun H0 o => o.set
theorem gs_nil : DGs X T [] gsn := pgs_nil.to fun v σ H Q ⟨ρ, F, d, ρ', a, r, hg, q⟩ => by
  cases d with
  | nil =>
    cases r
    cases hg
    exact ⟨rfl, q σ a fun _ o => o⟩
  | cons _ _ => cases hg
theorem gs_cons {e : Expr} {es : List Expr} {g : Tg} {h : Tgs} (h1 : DG X T e g) (h2 : DGs X T es h) (hs : (assignEach (e :: es) X.env).map (·.2) = assign e X.env :: (assignEach es X.env).map (·.2) := by rfl) : DGs X T (e :: es) (gsc g h) :=
  (pgs_cons h1 h2 hs).to fun v σ H Q ⟨ρ, F, d, ρ', a, r, hg, q⟩ => by
    cases d with
    | nil => cases hg
    | cons d ds =>
      cases r with
      | cons r1 r2 =>
        have hg : (g ρ d).bind (fun ρ' => h ρ' ds) = some ρ' := hg
        cases e1 : g ρ d with
        | none => rw [e1] at hg; cases hg
        | some ρ1 =>
          rw [e1] at hg
          have hg : h ρ1 ds = some ρ' := hg
          refine ⟨_, _, rfl, ρ, F, d, ρ1, a, r1, e1, fun σ1 a1 o1 => ?_⟩
          exact ⟨ρ1, F, ds, ρ', a1, r2, hg, fun σ2 a2 o2 => q σ2 a2 fun H0 o => o2 H0 (o1 H0 o)⟩
theorem g_tup {es : List Expr} {k : Nat} {pos : Pos} {h : Tgs} {n : Nat} (hc : X.calm = true) (h1 : DGs X T es h) (hn : (assignEach es X.env).length = n := by rfl) (hst : (assignEach es X.env).findIdx? (·.1) = none := by rfl) : DG X T (.Tuple es k pos) (gt n h) :=
  (PG.or (pg_tup hc h1 hn hst) (pg_unl hc h1 hn hst)).to fun v σ H Q ⟨ρ, F, d, ρ', a, r, hg, q⟩ => by
    cases r with
    | @tup ad xs ds h1 r1 =>
      have hg : (if ds.length = n then h ρ ds else none) = some ρ' := hg
      split at hg
      · rename_i hl
        exact .inl ⟨ad, xs, rfl, a.z.sub.st h1, by rw [r1.length]; exact hl, ρ, F, ds, ρ', a, r1, hg, q⟩
      · cases hg
    | @lst ad xs ds h1 r1 =>
      have hg : (if ds.length = n then h ρ ds else none) = some ρ' := hg
      split at hg
      · rename_i hl
        exact .inr ⟨ad, xs, rfl, SqL.of (a.z.sub _ _ h1), by rw [r1.length]; exact hl, ρ, F, ds, ρ', a, r1, hg, q⟩
      · cases hg
    | _ => cases hg
theorem s_nil : DSs X T W F0 H0 [] sskip := pss_nil.to fun Z σ H ⟨ρ, F, g, h⟩ => h σ F H g (Sub.refl F)
theorem s_one {st : Stmt} {s : Rho → SR} (h : DS X T W F0 H0 st s) : DSs X T W F0 H0 [st] s := pss_one h
theorem s_cons {st : Stmt} {rest : List Stmt} {s t : Rho → SR} (h : DS X T W F0 H0 st s) (h2 : DSs X T W F0 H0 rest t) : DSs X T W F0 H0 (st :: rest) (sseq s t) :=
  (pss_cons h h2).to fun Z σ H ⟨ρ, F, g, h⟩ => by
    refine ⟨ρ, F, g, ?_⟩
    unfold sseq at h
    cases e : s ρ with
    | nx ρ' =>
      rw [e] at h
      exact fun σ' F' H' g' sb => ⟨ρ', F', g', aftS.mono sb h⟩
    | bk ρ' => rw [e] at h; exact h
    | ct ρ' => rw [e] at h; exact h
    | rt d => rw [e] at h; exact h
    | ex n ρ' => rw [e] at h; exact h
    | bad => rw [e] at h; exact h
theorem s_ret {e : Expr} {pos : Pos} {f : Rho → Res D} (h : DE X T W e f) : DS X T W F0 H0 (.Return (some e) pos) (sret f) :=
  (ps_ret h).to fun Z σ H ⟨ρ, F, g, h⟩ => by
    refine ⟨ρ, F, g.at_, (aftS.bind (R := Rp X.K) g h).imp fun d _ v F1 H1 _ _ q => ?_⟩
    obtain ⟨b, F2, _, n, g2, rv, q⟩ := q
    exact q v F2 H1 g2.nx rv
theorem s_if {c : Expr} {a b : List Stmt} {pos : Pos} {f : Rho → Res Bool} {s t : Rho → SR} (hc : DQ X T W c f) (ha : DSs X T W F0 H0 a s) (hb : DSs X T W F0 H0 b t) : DS X T W F0 H0 (.If c a b pos) (sif f s t) :=
  (ps_if hc ha hb).to fun Z σ H ⟨ρ, F, g, h⟩ => by
    refine ⟨ρ, F, g.at_, (aftS.bind (R := RBool) g h).imp fun d _ v F1 H1 _ _ q => ?_⟩
    obtain ⟨b, F2, _, n, g2, rv, q⟩ := q
    obtain rfl : v = b := rv
    cases v with
    | true => exact ⟨ρ, F2, g2, q⟩
    | false => exact ⟨ρ, F2, g2, q⟩
theorem sasg_to {f : Rho → Res D} {g : Tg} {K : PySem.W.Frag} {Z : Ends} {σ : L2.St} {H : Hp} (h : tS K T W F0 H0 (sasg f g) Z σ H) : tAsg (tE K T W f) (tGd K T g) Z σ H := by
  obtain ⟨ρ, F, gg, h⟩ := h
  refine ⟨ρ, F, gg.at_, (aftS.bind (R := Rp K) gg h).imp fun d _ v F1 H1 _ _ q => ?_⟩
  obtain ⟨b, F2, _, n, g2, rv, q⟩ := q
  cases e : g ρ b with
  | none => rw [e] at q; exact q.elim
  | some ρ' =>
    rw [e] at q
    exact ⟨ρ, F2, b, ρ', g2.at_, rv, e, fun σ' a' o' => q σ' F2 H1 ⟨a', g2.nx, o' H0 g2.ow⟩ (Sub.refl F2)⟩
theorem s_asg {tg e : Expr} {pos : Pos} {f : Rho → Res D} {g : Tg} (he : DE X T W e f) (hg : DG X T tg g) (hs : swapsWithSole [tg] e pos.line X.env = pure false := by rfl) (hw : swappedStores [tg] e X.env = pure none := by rfl)
    (h1 : (assignEach [tg] X.env).map (·.2) = [assign tg X.env] := by rfl) : DS X T W F0 H0 (.Assign [tg] e pos) (sasg f g) :=
  (ps_asg he hg hs hw h1).to fun Z σ H h => sasg_to h
end

/-! ### while -/
def whileD (c : Rho → Res Bool) (s : Rho → SR) : Nat → Rho → SR
  | 0, _ => .bad
  | n + 1, ρ => bindS (c ρ) ρ fun b => if b = true then (match s ρ with
    | .nx ρ' => whileD c s n ρ'
    | .ct ρ' => whileD c s n ρ'
    | .bk ρ' => .nx ρ'
    | r => r) else .nx ρ
section
variable {X : Cx} {T : List (Addr × Str)} {W : WX} {F0 H0 : Hp}
theorem s_while {c : Expr} {body : List Stmt} {pos : Pos} {f : Rho → Res Bool} {s : Rho → SR} (N : Nat) (hp : PassesOwn (model X.prog X.w) X.A X.env X.xe) (hc : DQ X T W c f) (hb : DSs X T W F0 H0 body s) : DS X T W F0 H0 (.While c body [] pos) (whileD f s N) :=
  (ps_while hp hc hb).to fun Z σ H ⟨ρ, F, g, h⟩ => by
    refine ⟨fun m σ H => ∃ ρ F', Sg X.K T F0 H0 F' H σ ρ ∧ aftS X.K T W F0 H0 F' Z (whileD f s m ρ), ⟨N, ρ, F, g, h⟩, ?_⟩
    rintro m σ H ⟨ρ, F1, g, h⟩
    cases m with
    | zero => exact h.elim
    | succ m =>
      refine ⟨ρ, F1, g.at_, (aftS.bind (R := RBool) g h).imp fun d _ v F2 H2 _ _ q => ?_⟩
      obtain ⟨b, F3, _, n, g2, rv, q⟩ := q
      obtain rfl : v = b := rv
      cases v with
      | false => exact q σ F3 H2 g2 (Sub.refl F3)
      | true =>
        refine ⟨fun σ' H' => ∃ ρ' F', Sg X.K T F0 H0 F' H' σ' ρ' ∧ aftS X.K T W F0 H0 F' Z (whileD f s m ρ'), fun σ' H' w => ⟨m, Nat.lt_succ_self m, w⟩, ρ, F3, g2, ?_⟩
        have q : aftS X.K T W F0 H0 F3 Z (match s ρ with
          | .nx ρ' => whileD f s m ρ'
          | .ct ρ' => whileD f s m ρ'
          | .bk ρ' => .nx ρ'
          | r => r) := q
        cases e : s ρ with
        | nx ρ' => rw [e] at q; exact fun σ' F' H' g' sb => ⟨ρ', F', g', aftS.mono sb q⟩
        | ct ρ' => rw [e] at q; exact fun σ' F' H' g' sb => ⟨ρ', F', g', aftS.mono sb q⟩
        | bk ρ' => rw [e] at q; exact q
        | rt d => rw [e] at q; exact q
        | ex n ρ' => rw [e] at q; exact q
        | bad => rw [e] at q; exact q
end

/-! ### what is walked -/
/-- the walk J gives ds, while F is frozen -/
def Walks (K : PySem.W.Frag) (T : List (Addr × Str)) (F : Hp) (J : It) (ds : List D) : Prop :=
  ∀ (i : Nat) (F' H : Hp), Sub F F' → Fz F' H → (∀ d, ds[i]? = some d → J.go i H ∧ ∀ x H', J.yld i H x H' → ∃ F2, Nx T F' H F2 H' ∧ Rp K F2 x d) ∧ (ds.length ≤ i → J.stop i H)
def tI (K : PySem.W.Frag) (T : List (Addr × Str)) (W : WX) (f : Rho → Res (List D)) : TI := tG (fun K F J ds => Walks K T F J ds) K T W f
abbrev DI (X : Cx) (T : List (Addr × Str)) (W : WX) (tg iter : Expr) (f : Rho → Res (List D)) : Prop := PI X tg iter (tI X.K T W f)
theorem _root_.L2.PI.to {X : Cx} {tg e : Expr} {t u : TI} (h : PI X tg e t) (k : ∀ σ H R, u σ H R → t σ H R) : PI X tg e u := ⟨fun pins s σ H R I q => h.run pins s σ H R I (k σ H R q)⟩
theorem _root_.L2.PI.or {X : Cx} {tg e : Expr} {t u : TI} (h : PI X tg e t) (h2 : PI X tg e u) : PI X tg e (fun σ H R => t σ H R ∨ u σ H R) := ⟨fun pins s σ H R I q => q.elim (h.run pins s σ H R I) (h2.run pins s σ H R I)⟩
def loopD (g : Tg) (s : Rho → SR) : List D → Rho → SR
  | [], ρ => .nx ρ
  | d :: ds, ρ => match g ρ d with
    | none => .bad
    | some ρ1 => match s ρ1 with
      | .nx ρ' => loopD g s ds ρ'
      | .ct ρ' => loopD g s ds ρ'
      | .bk ρ' => .nx ρ'
      | r => r
def sfor (f : Rho → Res (List D)) (g : Tg) (s : Rho → SR) : Rho → SR := fun ρ => bindS (f ρ) ρ fun ds => loopD g s ds ρ
section
variable {X : Cx} {T : List (Addr × Str)} {W : WX} {F0 H0 : Hp}
theorem s_for {tg iter : Expr} {body : List Stmt} {pos : Pos} {f : Rho → Res (List D)} {g : Tg} {s : Rho → SR} (hp : PassesOwn (model X.prog X.w) X.A X.env X.xe) (hc : X.calm = true) (hi : DI X T W tg iter f) (hg : DG X T tg g) (hb : DSs X T W F0 H0 body s)
    (hs : ∀ x, foldedSetIterable iter X.env x = pure x := by intro _; rfl) : DS X T W F0 H0 (.For tg iter body [] pos) (sfor f g s) :=
  (ps_for hp hc hi hg hb hs).to fun Z σ H ⟨ρ, F, gg, h⟩ => by
    refine ⟨ρ, F, gg.at_, (aftS.bind (R := fun F J ds => Walks X.K T F J ds) gg h).imp fun d _ J F1 H1 _ _ q => ?_⟩
    obtain ⟨ds, F2, _, n, g2, wk, q⟩ := q
    refine ⟨fun i m σ H => m = ds.length - i ∧ i ≤ ds.length ∧ ∃ ρ F', Sg X.K T F0 H0 F' H σ ρ ∧ Sub F2 F' ∧ aftS X.K T W F0 H0 F' Z (loopD g s (ds.drop i) ρ), ⟨ds.length, by omega, by omega, ρ, F2, g2, Sub.refl F2, q⟩, ?_⟩
    rintro i m σ H ⟨rfl, hi, ρ, F3, g3, sb, q⟩
    obtain ⟨wg, ws⟩ := wk i F3 H sb g3.at_.z
    by_cases hlt : i < ds.length
    · have e : ds[i]? = some ds[i] := List.getElem?_eq_getElem hlt
      obtain ⟨go, yl⟩ := wg _ e
      refine .inr ⟨go, fun σ' H' => ∃ ρ' F', Sg X.K T F0 H0 F' H' σ' ρ' ∧ Sub F2 F' ∧ aftS X.K T W F0 H0 F' Z (loopD g s (ds.drop (i + 1)) ρ'), fun σ' H' w => ⟨ds.length - (i + 1), by omega, rfl, by omega, w⟩, fun x H' y => ?_⟩
      obtain ⟨F4, n4, rx⟩ := yl x H' y
      rw [List.drop_eq_getElem_cons hlt] at q
      have g4 := g3.step n4
      have q : aftS X.K T W F0 H0 F3 Z (match g ρ ds[i] with
        | none => .bad
        | some ρ1 => match s ρ1 with
          | .nx ρ' => loopD g s (ds.drop (i + 1)) ρ'
          | .ct ρ' => loopD g s (ds.drop (i + 1)) ρ'
          | .bk ρ' => .nx ρ'
          | r => r) := q
      cases eg : g ρ ds[i] with
      | none => rw [eg] at q; exact q.elim
      | some ρ1 =>
        rw [eg] at q
        have q : aftS X.K T W F0 H0 F3 Z (match s ρ1 with
          | .nx ρ' => loopD g s (ds.drop (i + 1)) ρ'
          | .ct ρ' => loopD g s (ds.drop (i + 1)) ρ'
          | .bk ρ' => .nx ρ'
          | r => r) := q
        refine ⟨ρ, F4, ds[i], ρ1, g4.at_, rx, eg, fun σ1 a1 o1 => ⟨ρ1, F4, ⟨a1, g4.nx, o1 H0 g4.ow⟩, ?_⟩⟩
        cases e2 : s ρ1 with
        | nx ρ' => rw [e2] at q; exact fun σ' F' H' g' sb' => ⟨ρ', F', g', (sb.trans n4.f).trans sb', aftS.mono (n4.f.trans sb') q⟩
        | ct ρ' => rw [e2] at q; exact fun σ' F' H' g' sb' => ⟨ρ', F', g', (sb.trans n4.f).trans sb', aftS.mono (n4.f.trans sb') q⟩
        | bk ρ' => rw [e2] at q; exact fun σ' F' H' g' sb' => q σ' F' H' g' (n4.f.trans sb')
        | rt d => rw [e2] at q; exact q
        | ex n ρ' => rw [e2] at q; exact fun σ' F' H' g' sb' => q σ' F' H' g' (n4.f.trans sb')
        | bad => rw [e2] at q; exact q
    · have e : i = ds.length := by omega
      subst e
      refine .inl ⟨ws (Nat.le_refl _), ?_⟩
      rw [List.drop_length] at q
      exact q σ F3 H g3 (Sub.refl F3)

/-! the walks -/
def itemsD : D → Res (List D)
  | .tup xs => .ok xs
  | .lst xs => .ok xs
  | .arr ns => .ok (ns.map .int)
  | .str x => .ok (x.cps.toList.map fun c => .str ⟨#[c]⟩)
  | _ => .bad
def its (f : Rho → Res D) : Rho → Res (List D) := fun ρ => (f ρ).bind itemsD
theorem walks_list {K : PySem.W.Frag} {F : Hp} {a : Addr} {xs : List V} {ds : List D} (h : SqL K F a xs) (r : RpAll K F xs ds) : Walks K T F (Itl K a) ds := fun i F' H sb z => by
  have hl : SqL K H a xs := (sb.trans z.sub).sl h
  refine ⟨fun d hd => ?_, fun hle => ⟨xs, hl, by rw [r.length]; exact hle⟩⟩
  obtain ⟨v, hv, rv⟩ := r.get hd
  refine ⟨⟨xs, v, hl, hv⟩, fun x H' y => ?_⟩
  obtain ⟨rfl, y⟩ := y
  have e := y xs hl
  rw [hv] at e
  cases e
  exact ⟨F', Nx.refl z, rv.mono sb⟩
theorem walks_tup {K : PySem.W.Frag} {F : Hp} {a : Addr} {xs : List V} {ds : List D} (h : SqT K F a xs) (r : RpAll K F xs ds) : Walks K T F (Itt K a) ds := fun i F' H sb z => by
  have hl : SqT K H a xs := (sb.trans z.sub).st h
  refine ⟨fun d hd => ?_, fun hle => ⟨xs, hl, by rw [r.length]; exact hle⟩⟩
  obtain ⟨v, hv, rv⟩ := r.get hd
  refine ⟨⟨xs, v, hl, hv⟩, fun x H' y => ?_⟩
  obtain ⟨rfl, y⟩ := y
  have e := y xs hl
  rw [hv] at e
  cases e
  exact ⟨F', Nx.refl z, rv.mono sb⟩
end
end DN
namespace DN
open PySem PySem.Spec PyProof.Rows L2
open LamX (Tabs ExtN)

/-! ### the walks of for and of comprehensions -/
section
variable {X : Cx} {T : List (Addr × Str)} {W : WX} {F0 H0 : Hp}
theorem walks_str {K : PySem.W.Frag} {F : Hp} {x : Str} : Walks K T F (Its x) (x.cps.toList.map fun c => D.str ⟨#[c]⟩) := fun i F' H sb z => by
  refine ⟨fun d hd => ?_, fun hle => ?_⟩
  · rw [List.getElem?_map] at hd
    cases e : x.cps.toList[i]? with
    | none => rw [e] at hd; cases hd
    | some c =>
      rw [e] at hd
      cases hd
      have hi : i < x.cps.size := by
        have := (List.getElem?_eq_some_iff.mp e).1
        simpa using this
      refine ⟨hi, fun v H' y => ?_⟩
      obtain ⟨rfl, c', hc', rfl⟩ := y
      have e2 : x.cps[i]? = some c := by simpa using e
      rw [e2] at hc'
      cases hc'
      exact ⟨F', Nx.refl z, .str _⟩
  · show x.cps.size ≤ i
    simpa using hle
theorem i_any {tg l : Expr} {f : Rho → Res D} (h : DE X T W l f) : DI X T W tg l (its f) :=
  ((pi_list h).or ((pi_tup h).or (pi_str h))).to fun σ H R ⟨ρ, F, a, h⟩ => by
    have h : aft (fun F J ds => Walks X.K T F J ds) X.K T W σ F H R ((f ρ).bind itemsD) := h
    cases e : f ρ with
    | bad => rw [e] at h; exact h.elim
    | ex n =>
      rw [e] at h
      exact .inl ⟨ρ, F, a, by rw [e]; exact h⟩
    | ok d =>
      rw [e] at h
      have h : aft (fun F J ds => Walks X.K T F J ds) X.K T W σ F H R (itemsD d) := h
      cases d with
      | lst ds =>
        refine .inl ⟨ρ, F, a, ?_⟩
        rw [e]
        intro v F' H' n r
        cases r with
        | lst h1 r1 => exact ⟨_, rfl, ⟨_, SqL.of (n.z.sub _ _ h1)⟩, h _ F' H' n (walks_list (SqL.of h1) r1)⟩
      | arr ns =>
        refine .inl ⟨ρ, F, a, ?_⟩
        rw [e]
        intro v F' H' n r
        cases r with
        | arr h1 => exact ⟨_, rfl, ⟨_, n.z.sub.sl h1⟩, h _ F' H' n (walks_list h1 (RpAll.ints ns))⟩
      | tup ds =>
        refine .inr (.inl ⟨ρ, F, a, ?_⟩)
        rw [e]
        intro v F' H' n r
        cases r with
        | tup h1 r1 => exact ⟨_, rfl, ⟨_, n.z.sub.st h1⟩, h _ F' H' n (walks_tup h1 r1)⟩
      | str x =>
        refine .inr (.inr ⟨ρ, F, a, ?_⟩)
        rw [e]
        intro v F' H' n r
        cases r
        exact ⟨x, rfl, h _ F' H' n walks_str⟩
      | _ => exact h.elim
def rngD (lo : Int) (n : Nat) : List D := (List.range n).map fun (i : Nat) => D.int (lo + (i : Int))
theorem walks_rng {K : PySem.W.Frag} {F : Hp} {lo : Int} {n : Nat} : Walks K T F (Itr lo n) (rngD lo n) := fun i F' H sb z => by
  refine ⟨fun d hd => ?_, fun hle => ?_⟩
  · unfold rngD at hd
    rw [List.getElem?_map] at hd
    cases e : (List.range n)[i]? with
    | none => rw [e] at hd; cases hd
    | some j =>
      rw [e] at hd
      cases hd
      obtain ⟨h1, h2⟩ := List.getElem?_eq_some_iff.mp e
      rw [List.getElem_range] at h2
      rw [List.length_range] at h1
      subst h2
      refine ⟨h1, fun v H' y => ?_⟩
      obtain ⟨rfl, rfl⟩ := y
      exact ⟨F', Nx.refl z, .int _⟩
  · unfold rngD at hle
    rw [List.length_map, List.length_range] at hle
    exact hle
def rng1 (f : Rho → Res (List D)) : Rho → Res (List D) := fun ρ => (f ρ).bind fun ds => match ds with
  | [.int j] => if -(2 ^ 62) ≤ j ∧ j < 2 ^ 62 then .ok (rngD 0 j.toNat) else .bad
  | _ => .bad
def rng2 (f : Rho → Res (List D)) : Rho → Res (List D) := fun ρ => (f ρ).bind fun ds => match ds with
  | [.int i, .int j] => if (-(2 ^ 62) ≤ i ∧ i < 2 ^ 62) ∧ (-(2 ^ 62) ≤ j ∧ j < 2 ^ 62) then .ok (rngD i (j - i).toNat) else .bad
  | _ => .bad
theorem i_rng1 {tg a : Expr} {p pos : Pos} {f : Rho → Res (List D)} (hg : Gl X "range") (hm : X.mg "range" = none) (ha : DA X T W [a] f) (hs : starEach [a] X.env = [(false, eval a X.env)] := by rfl) : DI X T W tg (.Call (.Name "range" p) [a] [] pos) (rng1 f) :=
  (pi_range1 hg hm ha hs).to fun σ H R ⟨ρ, F, a, h⟩ => by
    refine ⟨ρ, F, a, (aft.bind (R := RpAll X.K) h).imp fun d _ v F1 H1 _ _ q => ?_⟩
    obtain ⟨ds, F2, _, n, rv, q⟩ := q
    match ds, rv, q with
    | [.int j], .cons (.int _) .nil, q =>
      have q : aft (fun F J ds => Walks X.K T F J ds) X.K T W σ F2 H1 R (if -(2 ^ 62) ≤ j ∧ j < 2 ^ 62 then .ok (rngD 0 j.toNat) else .bad) := q
      split at q
      · rename_i hj
        exact ⟨j, rfl, hj.1, hj.2, q _ F2 H1 (Nx.refl n.z) walks_rng⟩
      · exact q.elim
theorem i_rng2 {tg a b : Expr} {p pos : Pos} {f : Rho → Res (List D)} (hg : Gl X "range") (hm : X.mg "range" = none) (ha : DA X T W [a, b] f) (hs : starEach [a, b] X.env = [(false, eval a X.env), (false, eval b X.env)] := by rfl) (hs2 : starEach [b] X.env = [(false, eval b X.env)] := by rfl) :
    DI X T W tg (.Call (.Name "range" p) [a, b] [] pos) (rng2 f) :=
  (pi_range2 hg hm ha hs hs2).to fun σ H R ⟨ρ, F, a, h⟩ => by
    refine ⟨ρ, F, a, (aft.bind (R := RpAll X.K) h).imp fun d _ v F1 H1 _ _ q => ?_⟩
    obtain ⟨ds, F2, _, n, rv, q⟩ := q
    match ds, rv, q with
    | [.int i, .int j], .cons (.int _) (.cons (.int _) .nil), q =>
      have q : aft (fun F J ds => Walks X.K T F J ds) X.K T W σ F2 H1 R (if (-(2 ^ 62) ≤ i ∧ i < 2 ^ 62) ∧ (-(2 ^ 62) ≤ j ∧ j < 2 ^ 62) then .ok (rngD i (j - i).toNat) else .bad) := q
      split at q
      · rename_i hj
        exact ⟨i, j, rfl, ⟨hj.1.1, hj.1.2, hj.2.1, hj.2.2⟩, q _ F2 H1 (Nx.refl n.z) walks_rng⟩
      · exact q.elim
end

/-! ### comprehensions -/
def wipeR (ρ : Rho) : List Nat → Rho
  | [] => ρ
  | v :: vs => (wipeR ρ vs).set v .u
def compD (g : Tg) (t : Rho → Res Bool) (e : Rho → Res D) (ρ : Rho) : List D → Res (List D)
  | [] => .ok []
  | d :: ds => match g ρ d with
    | none => .bad
    | some ρ1 => match t ρ1 with
      | .ok b => if b = true then (match e ρ1 with
        | .ok y => (compD g t e ρ ds).bind fun ys => .ok (y :: ys)
        | _ => .bad) else compD g t e ρ ds
      | _ => .bad
def lcD (f : Rho → Res (List D)) (i : Nat) (t : Rho → Res Bool) (e : Rho → Res D) : Rho → Res D := fun ρ => (f ρ).bind fun ds => if ds.length < sizeLine then (compD (gn i) t e (ρ.set i .u) ds).bind fun ys => .ok (.lst ys) else .bad
def yes : Rho → Res Bool := fun _ => .ok true
theorem tabs_upd {T : List (Addr × Str)} {H : Hp} {p : Addr} {xs : List V} {o : HO} (h : Tabs T H) (e : H p = some (.lst xs)) : Tabs T (upd H p o) := fun q hq => by
  obtain ⟨ps, h1, h2, h3⟩ := h q hq
  refine ⟨ps, ?_, h2, fun pos cv hc => ?_⟩
  · rw [upd_ne fun z => by rw [z, e] at h1; cases h1]; exact h1
  · obtain ⟨c, e1, e2⟩ := h3 pos cv hc
    refine ⟨c, e1, ?_⟩
    rw [upd_ne fun z => by rw [z, e] at e2; unfold LamX.CodeO at e2; cases e2]; exact e2
section
variable {X : Cx} {T : List (Addr × Str)} {W : WX} {F0 H0 : Hp}
abbrev W0 : WX := fun _ _ _ _ => False
theorem no_ex {α β : Type} {R : Hp → α → β → Prop} {K : PySem.W.Frag} {σ : L2.St} {F H : Hp} {Q : α → Hp → Prop} {r : Res β} (z : Fz F H) {b : β} (e : r = .ok b) (h : ∀ a F' H', Nx T F H F' H' → R F' a b → Q a H') : aft R K T W0 σ F H Q r := by
  rw [e]; exact h
theorem lc_to {K : PySem.W.Frag} {f : Rho → Res (List D)} {i : Nat} {t : Rho → Res Bool} {e : Rho → Res D} {σ : L2.St} {H : Hp} {Q : VK} (h : tE K T W (lcD f i t e) σ H Q) :
    tLc (tI K T W f) (gName i) (tT K T W0 t) (tE K T W0 e) [i] σ H Q := by
  obtain ⟨ρ, F, a, h⟩ := h
  refine ⟨ρ, F, a, (aft.bind (R := fun F J ds => Walks K T F J ds) h).imp fun d _ J F1 H1 _ _ q => ?_⟩
  obtain ⟨ds, F2, _, n, wk, q⟩ := q
  have q : aft (Rp K) K T W σ F2 H1 Q (if ds.length < sizeLine then (compD (gn i) t e (ρ.set i .u) ds).bind fun ys => .ok (.lst ys) else .bad) := q
  split at q
  · rename_i hlen
    cases hc : compD (gn i) t e (ρ.set i .u) ds with
    | bad => rw [hc] at q; exact q.elim
    | ex m =>
      exfalso
      have : ∀ ds : List D, compD (gn i) t e (ρ.set i .u) ds ≠ .ex m := fun ds => by
        induction ds with
        | nil => intro z; cases z
        | cons d ds ih =>
          intro z
          unfold compD at z
          simp only [gn] at z
          split at z
          · split at z
            · split at z
              · cases e2 : compD (gn i) t e (ρ.set i .u) ds with
                | ok ys => rw [e2] at z; cases z
                | ex m' =>
                  rw [e2] at z
                  cases z
                  exact ih e2
                | bad => rw [e2] at z; cases z
              · cases z
            · exact ih z
          · cases z
      exact this ds hc
    | ok ys =>
      rw [hc] at q
      have a2 := a.nx n
      intro p hp
      -- behind k turns
      refine ⟨fun k m H => m = ds.length - k ∧ k ≤ ds.length ∧ ∃ F' acc dacc rest, Nx T F2 H1 F' H ∧ F' p = none ∧ H p = some (.lst acc) ∧ RpAll K F' acc dacc ∧ acc.length ≤ k ∧ compD (gn i) t e (ρ.set i .u) (ds.drop k) = .ok rest ∧ dacc ++ rest = ys,
        ⟨ds.length, by omega, by omega, F2, [], [], ys, Nx.lay n.z hp, ?_, upd_same, .nil, by simp, hc, rfl⟩, ?_⟩
      · cases z : F2 p with
        | none => rfl
        | some o =>
          have := n.z.sub _ _ z
          rw [hp] at this; cases this
      rintro k m H ⟨rfl, hk, F', acc, dacc, rest, nx, hFp, hHp, ra, la, hr, hy⟩
      obtain ⟨wg, ws⟩ := wk k F' H nx.f nx.z
      by_cases hlt : k < ds.length
      · obtain ⟨go, yl⟩ := wg _ (List.getElem?_eq_getElem hlt)
        rw [List.drop_eq_getElem_cons hlt] at hr
        unfold compD at hr
        simp only [gn] at hr
        refine .inr ⟨go, fun H => ∃ F' acc dacc rest, Nx T F2 H1 F' H ∧ F' p = none ∧ H p = some (.lst acc) ∧ RpAll K F' acc dacc ∧ acc.length ≤ k + 1 ∧ compD (gn i) t e (ρ.set i .u) (ds.drop (k + 1)) = .ok rest ∧ dacc ++ rest = ys, fun H' w => ⟨ds.length - (k + 1), by omega, rfl, by omega, w⟩, fun x H' y => ?_⟩
        obtain ⟨F3, n3, rx⟩ := yl x H' y
        have hp3 : H' p = some (.lst acc) := n3.keep hHp ntL
        have hf3 : F3 p = none := n3.out hHp ntL hFp
        have a3 : At K T F3 H' (σ.set i none) (ρ.set i .u) := ⟨n3.z, (nx.trans n3).tab a2.t, (a2.r.mono (nx.trans n3)).wipe1⟩
        have a4 : At K T F3 H' ((σ.set i none).set i (some x)) ((ρ.set i .u).set i (.z ds[k])) := ⟨a3.z, a3.t, a3.r.set rx⟩
        show wipe ((σ.set i none).set i (some x)) [i] = wipe σ [i] ∧ _
        refine ⟨?_, ?_⟩
        · show ((σ.set i none).set i (some x)).set i none = σ.set i none
          rw [List.set_set, List.set_set]
        · cases ht : t ((ρ.set i .u).set i (.z ds[k])) with
          | bad => rw [ht] at hr; cases hr
          | ex m => rw [ht] at hr; cases hr
          | ok b =>
            rw [ht] at hr
            refine ⟨_, F3, a4, no_ex a4.z ht fun b' F4 H4 n4 rb => ?_⟩
            obtain rfl : b' = b := rb
            cases b' with
            | false =>
              show ∃ F' acc dacc rest, _
              have hr : compD (gn i) t e (ρ.set i .u) (ds.drop (k + 1)) = .ok rest := hr
              exact ⟨F4, acc, dacc, rest, (nx.trans n3).trans n4, n4.out hp3 ntL hf3, n4.keep hp3 ntL, ra.mono (n3.trans n4).f, by omega, hr, hy⟩
            | true =>
              have hr : (match e ((ρ.set i .u).set i (.z ds[k])) with
                | .ok y => (compD (gn i) t e (ρ.set i .u) (ds.drop (k + 1))).bind fun ys => .ok (y :: ys)
                | _ => .bad) = .ok rest := hr
              cases he : e ((ρ.set i .u).set i (.z ds[k])) with
              | bad => rw [he] at hr; cases hr
              | ex m => rw [he] at hr; cases hr
              | ok y =>
                rw [he] at hr
                have hr : (compD (gn i) t e (ρ.set i .u) (ds.drop (k + 1))).bind (fun ys => .ok (y :: ys)) = .ok rest := hr
                cases hr2 : compD (gn i) t e (ρ.set i .u) (ds.drop (k + 1)) with
                | bad => rw [hr2] at hr; cases hr
                | ex m => rw [hr2] at hr; cases hr
                | ok rest' =>
                  rw [hr2] at hr
                  cases hr
                  show tE K T W0 e _ H4 _
                  refine ⟨_, F4, a4.nx n4, no_ex n4.z he fun v F5 H5 n5 rv => ?_⟩
                  have hp5 : H5 p = some (.lst acc) := (n4.trans n5).keep hp3 ntL
                  have hf5 : F5 p = none := (n4.trans n5).out hp3 ntL hf3
                  have n6 := (nx.trans n3).trans (n4.trans n5)
                  refine ⟨acc, hp5, by omega, F5, acc ++ [v], dacc ++ [y], rest', ⟨n6.f, ⟨fun b o eb => ?_, n6.z.nt⟩, fun b o eb no => ?_, n6.new, fun tb => tabs_upd (n6.tab tb) hp5⟩, hf5, upd_same, ?_, by rw [List.length_append]; simp; omega, rfl, by rw [List.append_assoc]; exact hy⟩
                  · rw [upd_ne fun z => by rw [z, hf5] at eb; cases eb]
                    exact n6.z.sub _ _ eb
                  · rw [upd_ne fun z => by rw [z, hp] at eb; cases eb]
                    exact n6.h _ _ eb no
                  · exact (ra.mono ((n3.trans n4).trans n5).f).append (.cons rv .nil)
      · have ek : k = ds.length := by omega
        subst ek
        refine .inl ⟨ws (Nat.le_refl _), ?_⟩
        rw [List.drop_length] at hr
        cases hr
        rw [List.append_nil] at hy
        subst hy
        refine q (.ref p) (upd F' p (.lst acc)) H ⟨fun b o eb => ?_, ⟨fun b o eb => ?_, fun b ps eb => ?_⟩, nx.h, fun b o eb => ?_, nx.tab⟩ (.lst upd_same (ra.mono fun b o eb => ?_))
        · rw [upd_ne fun z => by rw [z] at eb; rw [nx.f _ _ eb] at hFp; cases hFp]
          exact nx.f _ _ eb
        · by_cases hb : b = p
          · subst hb; rw [upd_same] at eb; rw [← eb]; exact hHp
          · rw [upd_ne hb] at eb; exact nx.z.sub _ _ eb
        · by_cases hb : b = p
          · subst hb; rw [upd_same] at eb; cases eb
          · rw [upd_ne hb] at eb; exact nx.z.nt _ _ eb
        · by_cases hb : b = p
          · subst hb
            exact .inr fun o' e' => by rw [hp] at e'; cases e'
          · rw [upd_ne hb] at eb; exact nx.new _ _ eb
        · rw [upd_ne fun z => by rw [z, hFp] at eb; cases eb]; exact eb
  · exact q.elim
theorem ts_nil : PTs X [] (tT X.K T W yes) := ⟨fun pins s σ H Q I ⟨ρ, F, a, h⟩ => pts_nil.run pins s σ H Q I (h true F H (Nx.refl a.z) rfl)⟩
theorem ts_one {c : Expr} {f : Rho → Res Bool} (h : DQ X T W c f) : PTs X [c] (tT X.K T W f) := pts_one h
theorem e_lc {elt tg iter : Expr} {ifs : List Expr} {scope : Scope} {x : Str} {i : Nat} {pos : Pos} {f : Rho → Res (List D)} {t : Rho → Res Bool} {e : Rho → Res D} (hc : X.calm = true) (hN : X.N.Nodup) (hi : DI X T W tg iter f) (ok : BlkOk X.N X.env.scope scope [(x, i)])
    (hg : ∀ (s : Shared) (H : Hp) (C : Addr) (cl : List (Str × Addr)) (fp : List Addr), PG (X.blk s H scope (compEnvC scope cl C X.env) fp) tg (gName i))
    (ht : ∀ (s : Shared) (H : Hp) (C : Addr) (cl : List (Str × Addr)) (fp : List Addr), PTs (X.blk s H scope (compEnvC scope cl C X.env) fp) ifs (tT X.K T W0 t))
    (he : ∀ (s : Shared) (H : Hp) (C : Addr) (cl : List (Str × Addr)) (fp : List Addr), DE (X.blk s H scope (compEnvC scope cl C X.env) fp) T W0 elt e) (hs : ∀ x, foldedSetIterable iter X.env x = pure x := by intro _; rfl) :
    DE X T W (.ListComp elt [⟨tg, iter, ifs, 0⟩] scope pos) (lcD f i t e) :=
  (pe_lc (own := [(x, i)]) hc hN hi ok hg ht he hs).to fun _ _ _ h => lc_to h
end

/-! ### defs -/
def startR (n : Nat) (ds : List D) : Rho := ds.map En.z ++ List.replicate (n - ds.length) .u
def runB (n : Nat) (s : Rho → SR) (ds : List D) : Res D := match s (startR n ds) with
  | .nx _ => .ok .non
  | .rt d => .ok d
  | .ex m _ => .ex m
  | _ => .bad
abbrev WofE (E : XK) : WX := fun cls d _ H => E cls d H
def spD (K : PySem.W.Frag) (T : List (Addr × Str)) (n : Nat) (den : List D → Res D) : Sp := fun vs H Q E => ∃ F ds, Fz F H ∧ Tabs T H ∧ RpAll K F vs ds ∧ ds.length = n ∧ aft (Rp K) K T (WofE E) [] F H Q (den ds)
def callD (n : Nat) (den : List D → Res D) (f : Rho → Res (List D)) : Rho → Res D := fun ρ => (f ρ).bind fun ds => if ds.length = n then den ds else .bad
theorem Rl.start {K : PySem.W.Frag} {F H : Hp} {vs : List V} {ds : List D} {N : List Str} (r : RpAll K F vs ds) : Rl K F H (L2.start N vs) (startR N.length ds) := by
  have hl := r.length
  have key : ∀ (i : Nat) (en : En), (startR N.length ds)[i]? = some en → (∃ d, ds[i]? = some d ∧ en = .z d) ∨ en = .u := fun i en h => by
    unfold startR at h
    rw [List.getElem?_append] at h
    split at h
    · rw [List.getElem?_map] at h
      cases e : ds[i]? with
      | none => rw [e] at h; cases h
      | some d => rw [e] at h; cases h; exact .inl ⟨d, rfl, rfl⟩
    · rw [List.getElem?_replicate] at h
      split at h
      · cases h; exact .inr rfl
      · cases h
  refine ⟨?_, fun i d h => ?_, fun i d h => ?_, fun i j d e p q _ h => ?_⟩
  · unfold L2.start startR
    simp [hl]
  · rcases key i _ h with ⟨d', e, z⟩ | z
    · cases z
      obtain ⟨v, hv, rv⟩ := r.get e
      refine ⟨v, ?_, rv⟩
      unfold L2.start
      rw [List.getElem?_append_left (by rw [List.length_map]; exact (List.getElem?_eq_some_iff.mp hv).1), List.getElem?_map, hv]
      rfl
    · cases z
  · rcases key i _ h with ⟨d', e, z⟩ | z <;> cases z
  · rcases key i _ h with ⟨d', e, z⟩ | z <;> cases z
structure OkD (P : Program) (w : World) (K : PySem.W.Frag) (mg : Str → Option Value) (base : Heap) (T : List (Addr × Str)) (k : Nat) (x : Str) (n : Nat) (den : List D → Res D) : Prop where
  ex : ∃ fd ps, FnOk P w K mg base (L2.CX P w) k (He.ga K x) fd ps (spD K T n den) ∧ Binds K fd ps []
  kp : PySem.W.keepIn K (.ref (He.ga K x)) = true
  mg : mg x = some (.ref (He.ga K x))
theorem fn_ok {P : Program} {w : World} {K : PySem.W.Frag} {mg : Str → Option Value} {base : Heap} {T : List (Addr × Str)} {k : Nat} {x qual : Str} {params : Arguments} {body : List Stmt} {scope : Scope} {kws : List (Str × V)} {f : Addr} {fd : FuncData} {N ps : List Str} {n : Nat} {s : Rho → SR}
    (Fd : FunD K x qual params body scope [] kws f fd) (S : FnScope N ps scope) (hn : ps.length = n)
    (hb : ∀ (cdv : Value) (A : Around) (outer : List Env) (s0 : Shared) (H0 : Hp) (E : XK) (F0 : Hp), Room k (A.deeper (envOfC qual scope s0.heap.objs.size f cdv)) → DSs (cxOf (L2.CX P w) P w K mg base N qual scope f cdv A outer s0 H0 E) T (WofE E) F0 H0 body s) :
    FnOk P w K mg base (L2.CX P w) (k + 1) f fd ps (spD K T n (runB N.length s)) := by
  refine Fd.ok S (fun vs H Q E h => ?_) fun cdv A outer s0 H vs Q E hr h => ?_
  · obtain ⟨F, ds, _, _, r, hl, _⟩ := h
    rw [r.length, hl, hn]
  · obtain ⟨F, ds, z, tb, r, hl, h⟩ := h
    refine ⟨_, hb cdv A outer s0 H E F hr, startR N.length ds, F, ⟨⟨z, tb, Rl.start r⟩, Nx.refl z, fun i d p h1 => ?_⟩, ?_⟩
    · exfalso
      have o := (Rl.start (K := K) (F := F) (H := H) (N := N) r)
      unfold startR at h1
      rw [List.getElem?_append] at h1
      split at h1
      · rw [List.getElem?_map] at h1
        cases e : ds[i]? with
        | none => rw [e] at h1; cases h1
        | some d => rw [e] at h1; cases h1
      · rw [List.getElem?_replicate] at h1
        split at h1 <;> cases h1
    · unfold runB at h
      cases e : s (startR N.length ds) with
      | nx ρ => rw [e] at h; exact fun σ F' H' g _ => h .non F' H' g.nx .non
      | rt d => rw [e] at h; exact fun v F' H' nx rv => h v F' H' nx rv
      | ex m ρ => rw [e] at h; exact fun σ F' H' g _ => h F' H' g.nx
      | bk ρ => rw [e] at h; exact h.elim
      | ct ρ => rw [e] at h; exact h.elim
      | bad => rw [e] at h; exact h.elim
section
variable {X : Cx} {T : List (Addr × Str)} {W : WX} {F0 H0 : Hp}
theorem call_to {K : PySem.W.Frag} {n : Nat} {den : List D → Res D} {f : Rho → Res (List D)} {σ : L2.St} {H : Hp} {Q : VK} (h : tE K T W (callD n den f) σ H Q) : tCallS (spD K T n den) (WE W) (tA K T W f) σ H Q := by
  obtain ⟨ρ, F, a, h⟩ := h
  refine ⟨ρ, F, a, (aft.bind (R := RpAll K) h).imp fun d _ v F1 H1 _ _ q => ?_⟩
  obtain ⟨b, F2, _, nx, rv, q⟩ := q
  have q : aft (Rp K) K T W σ F2 H1 Q (if b.length = n then den b else .bad) := q
  split at q
  · rename_i hl
    refine ⟨F2, b, nx.z, nx.tab a.t, rv, hl, ?_⟩
    cases e : den b with
    | ok d => rw [e] at q; exact q
    | ex m => rw [e] at q; exact q
    | bad => rw [e] at q; exact q.elim
  · exact q.elim
theorem e_call {j k n : Nat} {x : Str} {den : List D → Res D} {e : Expr} {es : List Expr} {p pos : Pos} {f : Rho → Res (List D)} (O : OkD X.prog X.w X.K X.mg X.base T j x n den) (hr : Room k X.A) (tk : Takes X W) (hg : Gl X x) (ha : DA X T W (e :: es) f) (hj : j ≤ k := by decide)
    (hdb : (x == ("__debug__" : Str)) = false := by decide) (he : starEach (e :: es) X.env = (false, eval e X.env) :: starEach es X.env := by rfl) (hpl : (backTo pos (starEach es X.env)).any (·.1) = false := by rfl) :
    DE X T W (.Call (.Name x p) (e :: es) [] pos) (callD n den f) := by
  obtain ⟨fd, ps, G, b⟩ := O.ex
  exact (pe_callS (E := WE W) G (hr.mono hj) hg O.mg O.kp b (fun σ => passAt tk σ) ha hdb he hpl).to fun _ _ _ h => call_to h
/-- what is known of an own error class -/
structure ExcN (K : PySem.W.Frag) (mg : Str → Option Value) (x : Str) : Prop where
  e : PySem.W.excIn K (He.ga K x) He.veBase "ValueError.__new__" = true
  k : PySem.W.keepIn K (.ref (He.ga K x)) = true
  b : PySem.W.subIn K (.ref (He.ga K x)) (.type "BaseException") = some true
  t : PySem.W.typeIn K (.ref (He.ga K x)) = some (.type "type")
  g : mg x = some (.ref (He.ga K x))
def sraise (x : Str) : Rho → SR := fun ρ => .ex x ρ
theorem s_raise {x m : Str} {j : Nat} {p p2 pos pos2 : Pos} (N : ExcN X.K X.mg x) (hc : X.calm = true) (tk : Takes X W) (hg : Gl X x) (hdb : (x == ("__debug__" : Str)) = false := by decide) : DS X T W F0 H0 (.Raise (some (.Call (.Name x p) [.Constant (.str m) j p2] [] pos)) none pos2) (sraise x) :=
  (ps_raise hc tk (pmk_own PySem.F.excBase_ValueError N.e N.g N.k (raises_own N.b N.t) hg hdb)).to fun Z σ H ⟨ρ, F, g, h⟩ => h σ F H g (Sub.refl F)
end
end DN
namespace DN
open PySem PySem.Spec PyProof.Rows L2
open LamX (Tabs ExtN)

/-! ### the module's names -/
section
variable {X : Cx} {T : List (Addr × Str)} {W : WX}
theorem e_gint {x : Str} {i : Int} {pos : Pos} (h : ∃ t, X.mg x = some (.int i t)) (hg : Gl X x) (hd : (x == ("__debug__" : Str)) = false := by decide) : DE X T W (.Name x pos) (con (.int i)) := by
  obtain ⟨t, h⟩ := h
  exact e_c (pe_glob (v := .int i) hg h ⟨t, rfl⟩ hd) fun _ => .int i
theorem e_gstr {x z : Str} {pos : Pos} (h : ∃ t, X.mg x = some (.str z t)) (hg : Gl X x) (hd : (x == ("__debug__" : Str)) = false := by decide) : DE X T W (.Name x pos) (con (.str z)) := by
  obtain ⟨t, h⟩ := h
  exact e_c (pe_glob (v := .str z) hg h ⟨t, rfl⟩ hd) fun _ => .str z
theorem RpAll.strs {K : PySem.W.Frag} {F : Hp} : ∀ (ns : List Str), RpAll K F (ns.map V.str) (ns.map D.str)
  | [] => .nil
  | n :: ns => .cons (.str n) (RpAll.strs ns)
theorem e_gtup {x : Str} {zs : List Str} {pos : Pos} (h : X.mg x = some (.ref (He.ga X.K x))) (ht : ∀ H, SqT X.K H (He.ga X.K x) (zs.map V.str)) (hg : Gl X x) (hd : (x == ("__debug__" : Str)) = false := by decide) : DE X T W (.Name x pos) (con (.tup (zs.map D.str))) :=
  e_c (pe_glob (v := .ref (He.ga X.K x)) hg h rfl hd) fun F => .tup (ht F) (RpAll.strs zs)
theorem e_ty {x : Str} {n : String} {pos : Pos} (hm : X.mg x = none) (hv : bootBuiltins x = some (.type n)) (hg : Gl X x) (hn : x ≠ "__name__" := by decide) (hd : (x == ("__debug__" : Str)) = false := by decide) : DE X T W (.Name x pos) (con (.ty n)) :=
  e_c (pe_bltn (v := .ty n) hg hm hv rfl hn hd) fun F => .ty n
end
theorem bt_len : bootBuiltins "len" = some (.builtin "len") := by decide +kernel
theorem bt_abs : bootBuiltins "abs" = some (.builtin "abs") := by decide +kernel
theorem bt_max : bootBuiltins "max" = some (.builtin "max") := by decide +kernel
theorem bt_min : bootBuiltins "min" = some (.builtin "min") := by decide +kernel
theorem bt_isinstance : bootBuiltins "isinstance" = some (.builtin "isinstance") := by decide +kernel
theorem bt_int : bootBuiltins "int" = some (.type "int") := by decide +kernel
theorem bt_str : bootBuiltins "str" = some (.type "str") := by decide +kernel
theorem bt_tuple : bootBuiltins "tuple" = some (.type "tuple") := by decide +kernel
/-! ### the end -/
theorem start_arr {K : PySem.W.Frag} {H : Hp} {a : Addr} {ns : List Int} (h : SqL K H a (ns.map V.int)) : ∃ F, Fz F H ∧ Rp K F (.ref a) (.arr ns) := by
  rcases h with (h | ⟨o, h⟩) | h
  · refine ⟨fun b => if b = a then some (.lst (ns.map V.int)) else none, ⟨fun b o e => ?_, fun b ps e => ?_⟩, .arr (.inl (.inl (if_pos rfl)))⟩
    · by_cases hb : b = a
      · rw [if_pos hb] at e; rw [hb, h]; exact e
      · rw [if_neg hb] at e; cases e
    · by_cases hb : b = a
      · rw [if_pos hb] at e; cases e
      · rw [if_neg hb] at e; cases e
  · refine ⟨fun b => if b = a then some (.frz o (.lst (ns.map V.int))) else none, ⟨fun b o e => ?_, fun b ps e => ?_⟩, .arr (.inl (.inr ⟨o, if_pos rfl⟩))⟩
    · by_cases hb : b = a
      · rw [if_pos hb] at e; rw [hb, h]; exact e
      · rw [if_neg hb] at e; cases e
    · by_cases hb : b = a
      · rw [if_pos hb] at e; cases e
      · rw [if_neg hb] at e; cases e
  · exact ⟨fun _ => none, ⟨(fun b o e => nomatch e), (fun b ps e => nomatch e)⟩, .arr (.inr h)⟩
theorem law_sp {K : PySem.W.Frag} {T : List (Addr × Str)} {H : Hp} {a : Addr} {ns : List Int} {den : List D → Res D} (hT : Tabs T H) (h : SqL K H a (ns.map V.int)) (hd : den [.arr ns] = .ok (.bl true)) : spD K T 1 den [.ref a] H (fun v _ => v = .bl true) fun _ _ _ => False := by
  obtain ⟨F, z, r⟩ := start_arr h
  refine ⟨F, [.arr ns], z, hT, .cons r .nil, rfl, ?_⟩
  rw [hd]
  intro v F' H' n rv
  cases rv
  rfl
theorem cx_false {P : Program} {w : World} {l : List Env} {H : Hp} {s : Shared} {e : Value} {s' : Shared} (h : L2.CX P w l H s (fun _ _ _ => False) e s') : False := by
  obtain ⟨_, _, _, _, _, _, _, _, _, _, _, _, z⟩ := h
  exact z.elim
theorem lawAt0 {l : PySem.W.OpenLaw} {w : World} {K : PySem.W.Frag} {k n : Nat} {x : Str} {mg : Str → Option Value} {fa : Addr} {h : Heap} {fd : FuncData} {den : List D → Res D} (hb : ∀ (s : Shared) (u : Value), BindsTo s fd ⟨[u], []⟩ [(x, u)])
    (hd : ∀ ns : List Int, ns.length ≤ n → (∀ z ∈ ns, Builtin.Int.intBits z ≤ 1048576) → den [.arr ns] = .ok (.bl true))
    (hF : ∀ base : Heap, K.In base → base.Ns mainGlobals mg → FnOk l.prog w K mg base (L2.CX l.prog w) k fa fd [x] (spD K [] 1 den)) : LamX.LawAtS l w K (L2.CX l.prog w) k n x mg fa h :=
  ⟨fd, [], spD K [] 1 den, fun p hp => by (cases hp), fun p hp => by (cases hp), fun p hp => by (cases hp), hb, fun H a ns hl hz _ hS => law_sp (fun p hp => by cases hp) hS (hd ns hl hz), fun base h1 h2 _ => hF base h1 h2⟩
end DN
namespace HT
open PySem PyProof.Rows
section
variable {prog : Program} {w : World} {A : Around} {E : Value → Shared → Prop} {s : Shared}
end
end HT
namespace DN
open PySem PySem.Spec PyProof.Rows L2
open LamX (Tabs ExtN)
section
variable {X : Cx}
end
theorem _root_.L2.PE.or {X : Cx} {e : Expr} {t u : TE} (h : PE X e t) (h2 : PE X e u) : PE X e (fun σ H Q => t σ H Q ∨ u σ H Q) := ⟨fun pins s σ H Q I q => q.elim (h.run pins s σ H Q I) (h2.run pins s σ H Q I)⟩
section
variable {X : Cx} {T : List (Addr × Str)} {W : WX}
end
end DN
namespace DN
open PySem PySem.Spec PyProof.Rows L2

/-! ### evaluating functions of data -/
def app2 (G : D → D → Option D) : Res D → Res D → Res D
  | .ok a, .ok b => ofO (G a b)
  | .ok _, .ex n => .ex n
  | .ok _, .bad => .bad
  | .ex n, _ => .ex n
  | .bad, _ => .bad
def app1 (G : D → Option D) (r : Res D) : Res D := r.bind fun a => ofO (G a)
def appL (G : List D → Option D) (r : Res (List D)) : Res D := r.bind fun a => ofO (G a)
def consR : Res D → Res (List D) → Res (List D)
  | .ok a, .ok b => .ok (a :: b)
  | .ok _, .ex n => .ex n
  | .ok _, .bad => .bad
  | .ex n, _ => .ex n
  | .bad, _ => .bad
def callR (n : Nat) (den : List D → Res D) (r : Res (List D)) : Res D := r.bind fun ds => if ds.length = n then den ds else .bad
def tstR (r : Res D) : Res Bool := r.bind ans
def seqR (r : SR) (t : Rho → SR) : SR := match r with
  | .nx ρ => t ρ
  | r => r
def retR (r : Res D) (ρ : Rho) : SR := bindS r ρ .rt
def asgR (r : Res D) (ρ : Rho) (g : Tg) : SR := bindS r ρ fun d => match g ρ d with
  | some ρ' => .nx ρ'
  | none => .bad
def ifR (r : Res Bool) (s t : Rho → SR) (ρ : Rho) : SR := bindS r ρ fun b => if b = true then s ρ else t ρ
def finR : SR → Res D
  | .nx _ => .ok .non
  | .rt d => .ok d
  | .ex m _ => .ex m
  | _ => .bad
def andR (r : Res Bool) (g : Rho → Res Bool) (ρ : Rho) : Res Bool := r.bind fun b => if b = true then g ρ else .ok false
def orR (r : Res Bool) (g : Rho → Res Bool) (ρ : Rho) : Res Bool := r.bind fun b => if b = true then .ok true else g ρ
def notR (r : Res Bool) : Res Bool := r.bind fun b => .ok (!b)
def andER (r : Res D) (g : Rho → Res D) (ρ : Rho) : Res D := r.bind fun d => (ans d).bind fun b => if b = true then g ρ else .ok (.bl false)
def orER (r : Res D) (g : Rho → Res D) (ρ : Rho) : Res D := r.bind fun d => (ans d).bind fun b => if b = true then .ok (.bl true) else g ρ
def notER (r : Res D) : Res D := r.bind fun d => (ans d).bind fun b => .ok (.bl (!b))
def mkTR (r : Res (List D)) : Res D := r.bind fun ds => if ds.length ≤ sizeLine then .ok (.tup ds) else .bad
def mkLR (r : Res (List D)) : Res D := r.bind fun ds => if ds.length ≤ sizeLine then .ok (.lst ds) else .bad
def slcR (r : Res D) (lo hi : Res (Option Int)) : Res D := r.bind fun d => lo.bind fun lo => hi.bind fun hi => ofO (slD d lo hi)
def psmR (r : Res D) : Res (Option Int) := r.bind intO
def forR (r : Res (List D)) (g : Tg) (s : Rho → SR) (ρ : Rho) : SR := bindS r ρ fun ds => loopD g s ds ρ
def chnR (G G' : D → D → Option D) (a b c : Res D) : Res D := a.bind fun d => b.bind fun e => (ofO (G d e)).bind fun z => (ans z).bind fun k => if k = true then c.bind fun c => ofO (G' e c) else .ok (.bl false)
theorem runB_eq {n : Nat} {g : Rho → SR} {ds : List D} {ρ : Rho} (h : startR n ds = ρ) : runB n g ds = finR (g ρ) := by
  subst h
  unfold runB finR
  cases g (startR n ds) <;> rfl
section
variable {ρ : Rho}
theorem bin_def {G f g} : bop G f g ρ = app2 G (f ρ) (g ρ) := by
  unfold bop app2
  cases f ρ <;> cases g ρ <;> rfl
theorem una_def {G f} : una G f ρ = app1 G (f ρ) := rfl
theorem cal_def {G f} : cal G f ρ = appL G (f ρ) := rfl
theorem acons_def {f g} : acons f g ρ = consR (f ρ) (g ρ) := by
  unfold acons consR
  cases f ρ <;> cases g ρ <;> rfl
theorem anil_def : anil ρ = .ok [] := rfl
theorem con_def {d} : con d ρ = .ok d := rfl
theorem callD_def {n den f} : callD n den f ρ = callR n den (f ρ) := rfl
theorem tst_def {f} : tst f ρ = tstR (f ρ) := rfl
theorem sseq_def {s t} : sseq s t ρ = seqR (s ρ) t := by
  unfold sseq seqR
  cases s ρ <;> rfl
theorem sret_def {f} : sret f ρ = retR (f ρ) ρ := rfl
theorem sasg_def {f g} : sasg f g ρ = asgR (f ρ) ρ g := rfl
theorem sif_def {c s t} : sif c s t ρ = ifR (c ρ) s t ρ := rfl
theorem sskip_def : sskip ρ = .nx ρ := rfl
theorem sraise_def {x} : sraise x ρ = .ex x ρ := rfl
theorem andQ_def {f g} : andQ f g ρ = andR (f ρ) g ρ := rfl
theorem orQ_def {f g} : orQ f g ρ = orR (f ρ) g ρ := rfl
theorem notQ_def {f} : notQ f ρ = notR (f ρ) := rfl
theorem andE_def {f g} : andE f g ρ = andER (f ρ) g ρ := rfl
theorem orE_def {f g} : orE f g ρ = orER (f ρ) g ρ := rfl
theorem notE_def {f} : notE f ρ = notER (f ρ) := rfl
theorem mkT_def {f} : mkT f ρ = mkTR (f ρ) := rfl
theorem mkL_def {f} : mkL f ρ = mkLR (f ρ) := rfl
theorem slc_def {f g h} : slc f g h ρ = slcR (f ρ) (g ρ) (h ρ) := rfl
theorem psm_def {f} : psm f ρ = psmR (f ρ) := rfl
theorem pno_def : pno ρ = .ok none := rfl
theorem sfor_def {f g s} : sfor f g s ρ = forR (f ρ) g s ρ := rfl
theorem chn_def {G G' f g h} : chn G G' f g h ρ = chnR G G' (f ρ) (g ρ) (h ρ) := rfl
theorem var_zero {d r} : var 0 (.z d :: r) = .ok d := rfl
theorem var_succ {n x r} : var (n + 1) (x :: r) = var n r := rfl
theorem app2_ok {G a b} : app2 G (.ok a) (.ok b) = ofO (G a b) := rfl
theorem app1_ok {G a} : app1 G (.ok a) = ofO (G a) := rfl
theorem appL_ok {G a} : appL G (.ok a) = ofO (G a) := rfl
theorem consR_ok {a b} : consR (.ok a) (.ok b) = .ok (a :: b) := rfl
theorem ofO_some {α} {a : α} : ofO (some a) = .ok a := rfl
theorem call0 {den} : callR 0 den (.ok []) = den [] := rfl
theorem call1 {den a} : callR 1 den (.ok [a]) = den [a] := rfl
theorem call2 {den a b} : callR 2 den (.ok [a, b]) = den [a, b] := rfl
theorem call3 {den a b c} : callR 3 den (.ok [a, b, c]) = den [a, b, c] := rfl
theorem call4 {den a b c d} : callR 4 den (.ok [a, b, c, d]) = den [a, b, c, d] := rfl
theorem call5 {den a b c d e} : callR 5 den (.ok [a, b, c, d, e]) = den [a, b, c, d, e] := rfl
theorem tstR_ok {b} : tstR (.ok (.bl b)) = .ok b := rfl
theorem seqR_nx {t} : seqR (.nx ρ) t = t ρ := rfl
theorem seqR_rt {d t} : seqR (.rt d) t = .rt d := rfl
theorem seqR_ex {n t} : seqR (.ex n ρ) t = .ex n ρ := rfl
theorem retR_ok {d} : retR (.ok d) ρ = .rt d := rfl
theorem retR_ex {n} : retR (.ex n) ρ = .ex n ρ := rfl
theorem asgR_n {d i} : asgR (.ok d) ρ (gn i) = .nx (ρ.set i (.z d)) := rfl
theorem asgR_ex {n g} : asgR (.ex n) ρ g = .ex n ρ := rfl
theorem asgR_2 {a b i j} : asgR (.ok (.tup [a, b])) ρ (gt 2 (gsc (gn i) (gsc (gn j) gsn))) = .nx ((ρ.set i (.z a)).set j (.z b)) := rfl
theorem asgR_2L {a b i j} : asgR (.ok (.lst [a, b])) ρ (gt 2 (gsc (gn i) (gsc (gn j) gsn))) = .nx ((ρ.set i (.z a)).set j (.z b)) := rfl
theorem asgR_3 {a b c i j k} : asgR (.ok (.tup [a, b, c])) ρ (gt 3 (gsc (gn i) (gsc (gn j) (gsc (gn k) gsn)))) = .nx (((ρ.set i (.z a)).set j (.z b)).set k (.z c)) := rfl
theorem ifR_t {s t} : ifR (.ok true) s t ρ = s ρ := rfl
theorem ifR_f {s t} : ifR (.ok false) s t ρ = t ρ := rfl
theorem finR_rt {d} : finR (.rt d) = .ok d := rfl
theorem finR_nx : finR (.nx ρ) = .ok .non := rfl
theorem finR_ex {n} : finR (.ex n ρ) = .ex n := rfl
theorem andR_t {g} : andR (.ok true) g ρ = g ρ := rfl
theorem andR_f {g} : andR (.ok false) g ρ = .ok false := rfl
theorem orR_t {g} : orR (.ok true) g ρ = .ok true := rfl
theorem orR_f {g} : orR (.ok false) g ρ = g ρ := rfl
theorem notR_ok {b} : notR (.ok b) = .ok (!b) := rfl
theorem andER_t {g} : andER (.ok (.bl true)) g ρ = g ρ := rfl
theorem andER_f {g} : andER (.ok (.bl false)) g ρ = .ok (.bl false) := rfl
theorem orER_t {g} : orER (.ok (.bl true)) g ρ = .ok (.bl true) := rfl
theorem orER_f {g} : orER (.ok (.bl false)) g ρ = g ρ := rfl
theorem notER_ok {b} : notER (.ok (.bl b)) = .ok (.bl (!b)) := rfl
theorem psmR_ok {i} : psmR (.ok (.int i)) = .ok (some i) := rfl
theorem slcR_ok {d lo hi} : slcR (.ok d) (.ok lo) (.ok hi) = ofO (slD d lo hi) := rfl
theorem while_t {c s n ρ'} (h : c ρ = .ok true) (h2 : s ρ = .nx ρ') : whileD c s (n + 1) ρ = whileD c s n ρ' := by
  show bindS (c ρ) ρ (fun b => if b = true then (match s ρ with | .nx ρ' => whileD c s n ρ' | .ct ρ' => whileD c s n ρ' | .bk ρ' => .nx ρ' | r => r) else .nx ρ) = _
  rw [h, h2]
  rfl
theorem while_f {c s n} (h : c ρ = .ok false) : whileD c s (n + 1) ρ = .nx ρ := by
  show bindS (c ρ) ρ (fun b => if b = true then (match s ρ with | .nx ρ' => whileD c s n ρ' | .ct ρ' => whileD c s n ρ' | .bk ρ' => .nx ρ' | r => r) else .nx ρ) = _
  rw [h]
  rfl
theorem loop_cons {g s d ds ρ1 ρ'} (h : g ρ d = some ρ1) (h2 : s ρ1 = .nx ρ') : loopD g s (d :: ds) ρ = loopD g s ds ρ' := by
  show (match g ρ d with | none => SR.bad | some ρ1 => match s ρ1 with | .nx ρ' => loopD g s ds ρ' | .ct ρ' => loopD g s ds ρ' | .bk ρ' => .nx ρ' | r => r) = _
  rw [h]
  show (match s ρ1 with | .nx ρ' => loopD g s ds ρ' | .ct ρ' => loopD g s ds ρ' | .bk ρ' => .nx ρ' | r => r) = _
  rw [h2]
theorem loop_ret {g s d ds ρ1 v} (h : g ρ d = some ρ1) (h2 : s ρ1 = .rt v) : loopD g s (d :: ds) ρ = .rt v := by
  show (match g ρ d with | none => SR.bad | some ρ1 => match s ρ1 with | .nx ρ' => loopD g s ds ρ' | .ct ρ' => loopD g s ds ρ' | .bk ρ' => .nx ρ' | r => r) = _
  rw [h]
  show (match s ρ1 with | .nx ρ' => loopD g s ds ρ' | .ct ρ' => loopD g s ds ρ' | .bk ρ' => .nx ρ' | r => r) = _
  rw [h2]
theorem forR_ok {ds g s} : forR (.ok ds) g s ρ = loopD g s ds ρ := rfl
theorem mkTR_ok {ds : List D} (h : ds.length ≤ 1000000) : mkTR (.ok ds) = .ok (.tup ds) := by
  show (if ds.length ≤ sizeLine then Res.ok (D.tup ds) else .bad) = _
  rw [if_pos (by rw [sizeLine_eq]; omega)]
theorem mkLR_ok {ds : List D} (h : ds.length ≤ 1000000) : mkLR (.ok ds) = .ok (.lst ds) := by
  show (if ds.length ≤ sizeLine then Res.ok (D.lst ds) else .bad) = _
  rw [if_pos (by rw [sizeLine_eq]; omega)]
theorem chn_le {i j k} : chnR leD leD (.ok (.int i)) (.ok (.int j)) (.ok (.int k)) = .ok (.bl (decide (i ≤ j) && decide (j ≤ k))) := by
  show (if decide (i ≤ j) = true then Res.ok (D.bl (decide (j ≤ k))) else .ok (.bl false)) = _
  cases decide (i ≤ j) <;> rfl
theorem chn_lt {i j k} : chnR leD ltD (.ok (.int i)) (.ok (.int j)) (.ok (.int k)) = .ok (.bl (decide (i ≤ j) && decide (j < k))) := by
  show (if decide (i ≤ j) = true then Res.ok (D.bl (decide (j < k))) else .ok (.bl false)) = _
  cases decide (i ≤ j) <;> rfl
/-! the operators on what they are for -/
theorem add_ii {i j} : addD (.int i) (.int j) = some (.int (i + j)) := rfl
theorem sub_ii {i j} : subD (.int i) (.int j) = some (.int (i - j)) := rfl
theorem neg_i {i} : negD (.int i) = some (.int (-i)) := rfl
theorem lt_ii {i j} : ltD (.int i) (.int j) = some (.bl (decide (i < j))) := rfl
theorem le_ii {i j} : leD (.int i) (.int j) = some (.bl (decide (i ≤ j))) := rfl
theorem gt_ii {i j} : gtD (.int i) (.int j) = some (.bl (decide (j < i))) := rfl
theorem ge_ii {i j} : geD (.int i) (.int j) = some (.bl (decide (j ≤ i))) := rfl
theorem eq_ii {i j} : eqD (.int i) (.int j) = some (.bl (i == j)) := by simp [eqD, eqOk, flatD, eqd]
theorem ne_ii {i j} : neD (.int i) (.int j) = some (.bl (!(i == j))) := by simp [neD, eqOk, flatD, eqd]
theorem eq_ss {i j} : eqD (.str i) (.str j) = some (.bl (i == j)) := by simp [eqD, eqOk, flatD, eqd]
theorem ne_ss {i j} : neD (.str i) (.str j) = some (.bl (!(i == j))) := by simp [neD, eqOk, flatD, eqd]
theorem eq_bb {i j} : eqD (.bl i) (.bl j) = some (.bl (i == j)) := by simp [eqD, eqOk, flatD, eqd]
theorem ne_bb {i j} : neD (.bl i) (.bl j) = some (.bl (!(i == j))) := by simp [neD, eqOk, flatD, eqd]
theorem mul_l {i j : Int} (h : -(2 ^ 64) < i ∧ i < 2 ^ 64) : mulD (.int i) (.int j) = some (.int (i * j)) := by
  show (if CMulD i j then some (D.int (i * j)) else none) = _
  rw [if_pos (.inl (.inl h))]
theorem mul_r {i j : Int} (h : -(2 ^ 64) < j ∧ j < 2 ^ 64) : mulD (.int i) (.int j) = some (.int (i * j)) := by
  show (if CMulD i j then some (D.int (i * j)) else none) = _
  rw [if_pos (.inl (.inr h))]
theorem log2_lt {n k : Nat} (h : n < 2 ^ k) (hk : 0 < k) : n.log2 < k := by
  by_cases h0 : n = 0
  · subst h0; simpa using hk
  · exact (Nat.log2_lt h0).mpr h
theorem mul_w {i j : Int} (h1 : i.natAbs < 2 ^ 100000) (h2 : j.natAbs < 2 ^ 100000) : mulD (.int i) (.int j) = some (.int (i * j)) := by
  show (if CMulD i j then some (D.int (i * j)) else none) = _
  have a := log2_lt h1 (by decide)
  have b := log2_lt h2 (by decide)
  rw [if_pos (.inr (show i.natAbs.log2 + j.natAbs.log2 < 1000000 by omega))]
theorem div_s {i j : Int} (h : 0 < j ∧ j < 2 ^ 64) : divD (.int i) (.int j) = some (.int (i / j)) := by
  show (if CDivW i j then some (D.int (i / j)) else none) = _
  have a : j.natAbs.log2 < 64 := log2_lt (by omega) (by decide)
  rw [if_pos ⟨h.1, by omega⟩]
theorem div_w {i j : Int} (h : 0 < j) (h2 : j.natAbs < 2 ^ 8000) : divD (.int i) (.int j) = some (.int (i / j)) := by
  show (if CDivW i j then some (D.int (i / j)) else none) = _
  have a := log2_lt h2 (by decide)
  rw [if_pos ⟨h, by omega⟩]
theorem mod_p {i j : Int} (h : 0 < j) : modD (.int i) (.int j) = some (.int (i % j)) := by
  show (if 0 < j then some (D.int (i % j)) else none) = _
  rw [if_pos h]
theorem ix_t {xs : List D} {i : Int} (h : 0 ≤ i ∧ i < xs.length) : ixD (.tup xs) (.int i) = some (xs.getD i.toNat .non) := by
  show atI xs i = _
  unfold atI ixN
  rw [if_pos h.1, if_pos h.2]
  show xs[i.toNat]? = _
  rw [List.getElem?_eq_getElem (by omega), List.getD_eq_getElem?_getD, List.getElem?_eq_getElem (by omega)]
  rfl
theorem ix_l {xs : List D} {i : Int} (h : 0 ≤ i ∧ i < xs.length) : ixD (.lst xs) (.int i) = some (xs.getD i.toNat .non) := by
  show atI xs i = _
  unfold atI ixN
  rw [if_pos h.1, if_pos h.2]
  show xs[i.toNat]? = _
  rw [List.getElem?_eq_getElem (by omega), List.getD_eq_getElem?_getD, List.getElem?_eq_getElem (by omega)]
  rfl
theorem ix_tm {xs : List D} {i m : Int} (h : 0 < m ∧ m ≤ xs.length) : ixD (.tup xs) (.int (i % m)) = some (xs.getD (i % m).toNat .non) := ix_t ⟨Int.emod_nonneg _ (by omega), Int.lt_of_lt_of_le (Int.emod_lt_of_pos _ h.1) h.2⟩
theorem ix_lm {xs : List D} {i m : Int} (h : 0 < m ∧ m ≤ xs.length) : ixD (.lst xs) (.int (i % m)) = some (xs.getD (i % m).toNat .non) := ix_l ⟨Int.emod_nonneg _ (by omega), Int.lt_of_lt_of_le (Int.emod_lt_of_pos _ h.1) h.2⟩
theorem ix_t0 {a : D} {r : List D} : ixD (.tup (a :: r)) (.int 0) = some a := by
  show atI (a :: r) 0 = _
  unfold atI ixN
  rw [if_pos (by decide), if_pos (by simp only [List.length_cons]; omega)]
  rfl
theorem ix_t1 {a b : D} {r : List D} : ixD (.tup (a :: b :: r)) (.int 1) = some b := by
  show atI (a :: b :: r) 1 = _
  unfold atI ixN
  rw [if_pos (by decide), if_pos (by simp only [List.length_cons]; omega)]
  rfl
theorem ix_t2 {a b c : D} {r : List D} : ixD (.tup (a :: b :: c :: r)) (.int 2) = some c := by
  show atI (a :: b :: c :: r) 2 = _
  unfold atI ixN
  rw [if_pos (by decide), if_pos (by simp only [List.length_cons]; omega)]
  rfl
theorem ix_t3 {a b c d : D} {r : List D} : ixD (.tup (a :: b :: c :: d :: r)) (.int 3) = some d := by
  show atI (a :: b :: c :: d :: r) 3 = _
  unfold atI ixN
  rw [if_pos (by decide), if_pos (by simp only [List.length_cons]; omega)]
  rfl
theorem ix_t4 {a b c d e : D} {r : List D} : ixD (.tup (a :: b :: c :: d :: e :: r)) (.int 4) = some e := by
  show atI (a :: b :: c :: d :: e :: r) 4 = _
  unfold atI ixN
  rw [if_pos (by decide), if_pos (by simp only [List.length_cons]; omega)]
  rfl
theorem ix_t5 {a b c d e f : D} {r : List D} : ixD (.tup (a :: b :: c :: d :: e :: f :: r)) (.int 5) = some f := by
  show atI (a :: b :: c :: d :: e :: f :: r) 5 = _
  unfold atI ixN
  rw [if_pos (by decide), if_pos (by simp only [List.length_cons]; omega)]
  rfl
theorem ix_t6 {a b c d e f g : D} {r : List D} : ixD (.tup (a :: b :: c :: d :: e :: f :: g :: r)) (.int 6) = some g := by
  show atI (a :: b :: c :: d :: e :: f :: g :: r) 6 = _
  unfold atI ixN
  rw [if_pos (by decide), if_pos (by simp only [List.length_cons]; omega)]
  rfl
theorem ix_t7 {a b c d e f g h : D} {r : List D} : ixD (.tup (a :: b :: c :: d :: e :: f :: g :: h :: r)) (.int 7) = some h := by
  show atI (a :: b :: c :: d :: e :: f :: g :: h :: r) 7 = _
  unfold atI ixN
  rw [if_pos (by decide), if_pos (by simp only [List.length_cons]; omega)]
  rfl
theorem ix_l0 {a : D} {r : List D} : ixD (.lst (a :: r)) (.int 0) = some a := by
  show atI (a :: r) 0 = _
  unfold atI ixN
  rw [if_pos (by decide), if_pos (by simp only [List.length_cons]; omega)]
  rfl
theorem ix_l1 {a b : D} {r : List D} : ixD (.lst (a :: b :: r)) (.int 1) = some b := by
  show atI (a :: b :: r) 1 = _
  unfold atI ixN
  rw [if_pos (by decide), if_pos (by simp only [List.length_cons]; omega)]
  rfl
theorem ix_l2 {a b c : D} {r : List D} : ixD (.lst (a :: b :: c :: r)) (.int 2) = some c := by
  show atI (a :: b :: c :: r) 2 = _
  unfold atI ixN
  rw [if_pos (by decide), if_pos (by simp only [List.length_cons]; omega)]
  rfl
theorem ix_l3 {a b c d : D} {r : List D} : ixD (.lst (a :: b :: c :: d :: r)) (.int 3) = some d := by
  show atI (a :: b :: c :: d :: r) 3 = _
  unfold atI ixN
  rw [if_pos (by decide), if_pos (by simp only [List.length_cons]; omega)]
  rfl
theorem ix_l4 {a b c d e : D} {r : List D} : ixD (.lst (a :: b :: c :: d :: e :: r)) (.int 4) = some e := by
  show atI (a :: b :: c :: d :: e :: r) 4 = _
  unfold atI ixN
  rw [if_pos (by decide), if_pos (by simp only [List.length_cons]; omega)]
  rfl
theorem ix_l5 {a b c d e f : D} {r : List D} : ixD (.lst (a :: b :: c :: d :: e :: f :: r)) (.int 5) = some f := by
  show atI (a :: b :: c :: d :: e :: f :: r) 5 = _
  unfold atI ixN
  rw [if_pos (by decide), if_pos (by simp only [List.length_cons]; omega)]
  rfl
theorem ix_l6 {a b c d e f g : D} {r : List D} : ixD (.lst (a :: b :: c :: d :: e :: f :: g :: r)) (.int 6) = some g := by
  show atI (a :: b :: c :: d :: e :: f :: g :: r) 6 = _
  unfold atI ixN
  rw [if_pos (by decide), if_pos (by simp only [List.length_cons]; omega)]
  rfl
theorem ix_l7 {a b c d e f g h : D} {r : List D} : ixD (.lst (a :: b :: c :: d :: e :: f :: g :: h :: r)) (.int 7) = some h := by
  show atI (a :: b :: c :: d :: e :: f :: g :: h :: r) 7 = _
  unfold atI ixN
  rw [if_pos (by decide), if_pos (by simp only [List.length_cons]; omega)]
  rfl
theorem len_t {xs : List D} : lenD [.tup xs] = some (.int xs.length) := rfl
theorem len_l {xs : List D} : lenD [.lst xs] = some (.int xs.length) := rfl
theorem len_a {xs : List Int} : lenD [.arr xs] = some (.int xs.length) := rfl
theorem abs_i {i : Int} : absD [.int i] = some (.int (if i < 0 then -i else i)) := rfl
theorem max_ii {i j : Int} : maxD [.int i, .int j] = some (.int (if j > i then j else i)) := rfl
theorem min_ii {i j : Int} : minD [.int i, .int j] = some (.int (if j < i then j else i)) := rfl
theorem int_i {i : Int} : intD [.int i] = some (.int i) := rfl
theorem int_b {b : Bool} : intD [.bl b] = some (.int (if b then 1 else 0)) := rfl
theorem int_t : intD [.bl true] = some (.int 1) := rfl
theorem int_f : intD [.bl false] = some (.int 0) := rfl
theorem str_i {i : Int} (h : i.natAbs < 2 ^ 1900) : strD [.int i] = some (.str (toString i)) := by
  show (if i.natAbs.log2 < 1920 then some (D.str (toString i)) else none) = _
  have a := log2_lt h (by decide)
  rw [if_pos (by omega)]
theorem len_s {x : Str} (h : x.length ≤ 1000000) : lenD [.str x] = some (.int x.length) := by
  show (if x.length ≤ sizeLine then some (D.int x.length) else none) = _
  rw [if_pos (by rw [sizeLine_eq]; omega)]
end
end DN
namespace DN
open PySem PySem.Spec PyProof.Rows L2
instance : Decidable (CPow i j) := by unfold CPow; infer_instance
end DN
namespace DN
open PySem PySem.Spec PyProof.Rows L2
open LamX (Tabs ExtN)

/-! ### methods of texts -/
def rDm (K : PySem.W.Frag) (T : List (Addr × Str)) (G : D → List D → Option D) : V → List V → Hp → VK → Prop := fun x xs H Q =>
  ∃ F d ds z, Fz F H ∧ Rp K F x d ∧ RpAll K F xs ds ∧ G d ds = some z ∧ ∀ v F' H', Nx T F H F' H' → Rp K F' v z → Q v H'
def met (G : D → List D → Option D) (f : Rho → Res D) (g : Rho → Res (List D)) : Rho → Res D := fun ρ => (f ρ).bind fun d => match d with
  | .str x => (g ρ).bind fun ds => ofO (G (.str x) ds)
  | _ => .bad
section
variable {X : Cx} {T : List (Addr × Str)} {W : WX}
theorem e_met {name : Str} {id : String} {G : D → List D → Option D} {o e : Expr} {es : List Expr} {f : Rho → Res D} {g : Rho → Res (List D)} {apos pos : Pos} (pa : PlainAttrs "str") (slot : Slot "str" name id) (hty : typeOf (.builtin id) = pure (.type "method_descriptor")) (hm : MtR X id (rDm X.K T G)) (ho : DE X T W o f) (ha : DA X T W (e :: es) g)
    (h1 : attributeBase o name X.env (eval o X.env) = eval o X.env := by rfl) (h5 : ((backTo pos (starEach (e :: es) X.env)).all (fun x => !x.1) && (backToKw pos (keywordEach [] X.env)).all (fun x => x.1.isSome) && decide ((e :: es).length + ([] : List Keyword).length + (if ([] : List Keyword).isEmpty then 0 else 1) < 30)) = true := by rfl) (h2 : (apos.endLine == pos.line) = true := by rfl) (h3 : starEach (e :: es) X.env = (false, eval e X.env) :: starEach es X.env := by rfl) (h4 : (backTo pos (starEach es X.env)).any (·.1) = false := by rfl) : DE X T W (.Call (.Attribute o name apos) (e :: es) [] pos) (met G f g) :=
  (pe_bm pa slot hty hm ho ha h1 h5 h2 h3 h4).to fun σ H Q ⟨ρ, F, a, h⟩ => by
    refine ⟨ρ, F, a, (aft.bind (R := Rp X.K) h).imp fun d _ v F1 H1 _ _ q => ?_⟩
    obtain ⟨b, F2, _, n, rv, q⟩ := q
    cases rv with
    | str x =>
      refine ⟨rfl, ρ, F2, a.nx n, (aft.bind (R := RpAll X.K) q).imp fun ds _ vs F3 H3 _ _ q => ?_⟩
      obtain ⟨ds', F4, _, n2, rs, q⟩ := q
      obtain ⟨z, hz, q⟩ := ofO_ok q
      exact ⟨F4, .str x, ds', z, n2.z, .str x, rs, hz, q⟩
    | _ => exact q.elim
def startsD : D → List D → Option D
  | .str a, [.str b] => some (.bl (Txt.startswith a b))
  | _, _ => none
def partD : D → List D → Option D
  | .str a, [.str b] => if (b.length == 0) = false ∧ a.length ≤ sizeLine then some (.tup [.str (Txt.partition a b).1, .str (Txt.partition a b).2.1, .str (Txt.partition a b).2.2]) else none
  | _, _ => none
theorem m_starts : MtR X "str.startswith" (rDm X.K T startsD) := by
  intro pins s σ H x xs v us Q I rx rs h
  obtain ⟨F, d, ds, z, hz, rd, rds, hG, q⟩ := h
  unfold startsD at hG
  split at hG
  · cases rd
    obtain ⟨v1, rfl, r1⟩ := all1 rds
    cases r1
    cases hG
    exact mt_startswith pins s σ H _ _ v us Q I rx rs ⟨_, _, rfl, rfl, done0 hz q (.bl _)⟩
  · cases hG
theorem m_part : MtR X "str.partition" (rDm X.K T partD) := by
  intro pins s σ H x xs v us Q I rx rs h
  obtain ⟨F, d, ds, z, hz, rd, rds, hG, q⟩ := h
  unfold partD at hG
  split at hG
  · cases rd
    obtain ⟨v1, rfl, r1⟩ := all1 rds
    cases r1
    split at hG
    · rename_i hc
      cases hG
      exact mt_partition pins s σ H _ _ v us Q I rx rs ⟨_, _, rfl, rfl, hc.1, hc.2, fun p hp => donep hz hp ntT q (rp_tup hz hp (.cons (.str _) (.cons (.str _) (.cons (.str _) .nil))))⟩
    · cases hG
  · cases hG
end
/-! evaluating -/
def metR (G : D → List D → Option D) (r : Res D) (l : Res (List D)) : Res D := r.bind fun d => match d with
  | .str x => l.bind fun ds => ofO (G (.str x) ds)
  | _ => .bad
theorem met_def {ρ : Rho} {G f g} : met G f g ρ = metR G (f ρ) (g ρ) := rfl
theorem metR_ok {G x ds} : metR G (.ok (.str x)) (.ok ds) = ofO (G (.str x) ds) := rfl
end DN
namespace DN
open PySem PySem.Spec PyProof.Rows L2
open LamX (Tabs ExtN CodeO GivesTo tLam LamS TabB lamCx lamEnv)

/-! ### list.count, flat items -/
section
variable {X : Cx}
end

/-! ### told: what an own error is told as -/
section
variable {X : Cx} {T : List (Addr × Str)}
end
end DN
namespace DN
open PySem PySem.Spec PyProof.Rows L2
open LamX (Tabs ExtN CodeO GivesTo tLam LamS TabB lamCx lamEnv)

section
variable {X : Cx} {T : List (Addr × Str)} {W : WX}
end
theorem exc_n {K : PySem.W.Frag} {h : Heap} {mg : Str → Option Value} {x : Str} (X : K.In h) (G : h.Ns mainGlobals mg) (c : (He.Fa.glo x).ok K = true) (e : (He.Fa.exc x).ok K = true) : ExcN K mg x := by
  obtain ⟨h1, h2, h3, h4⟩ := He.exc_ok e
  exact ⟨h1, h2, h3, h4, He.glo_ok X G c⟩
end DN
namespace DN
open PySem PySem.Spec PyProof.Rows L2
open LamX (Tabs ExtN)
section
variable {X : Cx} {T : List (Addr × Str)} {W : WX}
end
end DN
namespace DN
open PySem PySem.Spec PyProof.Rows L2
open LamX (Tabs ExtN)

/-! ### a module's dict of defs, text keys -/
theorem dicW_full {K : PySem.W.Frag} {w : World} {a : Addr} {ks : List Str} (h : He.dicW K a = some (He.keysIn w.params ks)) : ∃ es n, KDict K w a es n ∧ es.toList.map He.keyOf = He.keysIn w.params ks := by
  obtain ⟨es, n, D⟩ := He.dicW_ok h
  refine ⟨es, n, D, ?_⟩
  unfold He.dicW at h
  rw [D.at_] at h
  simp only [D.low] at h
  exact Option.some.inj h
theorem keys_miss {P : Params} {z : Str} : ∀ {l : List DictEntry} {ks : List Str}, l.map He.keyOf = He.keysIn P ks → z ∉ ks → l.find? (·.key.isStr z) = none ∧ l.any (·.refKey) = false
  | [], _, _, _ => ⟨rfl, rfl⟩
  | e :: r, [], h, _ => by cases h
  | e :: r, k :: ks, h, hz => by
    have h1 : He.keyOf e :: r.map He.keyOf = some (k, PyData.keyHash P k) :: He.keysIn P ks := h
    injection h1 with h2 h3
    obtain ⟨i1, i2⟩ := keys_miss h3 (fun q => hz (List.mem_cons_of_mem _ q))
    have hk : ∃ t, e.key = .str k t := by
      unfold He.keyOf at h2
      split at h2
      · rename_i x t q
        obtain ⟨h5, _⟩ := Prod.mk.inj (Option.some.inj h2)
        exact ⟨t, by rw [q, h5]⟩
      · cases h2
    obtain ⟨t, hk⟩ := hk
    have n1 : e.key.isStr z = false := by
      rw [hk]
      show (k == z) = false
      exact beq_eq_false_iff_ne.mpr fun q => hz (by rw [q]; exact List.mem_cons_self)
    have n2 : e.refKey = false := by unfold DictEntry.refKey; rw [hk]
    refine ⟨?_, ?_⟩
    · rw [List.find?_cons, n1]; exact i1
    · rw [List.any_cons, n2, i2]; rfl
/-- the module's dict x: text keys, defs -/
structure DicF (w : World) (K : PySem.W.Frag) (mg : Str → Option Value) (x : Str) (kvs : List (Str × Str)) : Prop where
  kd : ∃ es n, KDict K w (He.ga K x) es n ∧ es.toList.map He.keyOf = He.keysIn w.params (kvs.map Prod.fst)
  vals : ∀ q ∈ kvs, ∃ u, PySem.W.nsIn K (He.ga K x) q.1 = some (some u) ∧ RelV (.ref (He.ga K q.2)) u
  g : mg x = some (.ref (He.ga K x))
def inT (ks : List Str) (f : Rho → Res D) : Rho → Res D := fun ρ => (f ρ).bind fun d => match d with
  | .str z => .ok (.bl (ks.contains z))
  | _ => .bad
def tabF (kvs : List (Str × Str)) (f : Rho → Res D) : Rho → Res D := fun ρ => (f ρ).bind fun d => match d with
  | .str z => (match kvs.lookup z with
    | some n => .ok (.fn n)
    | none => .bad)
  | _ => .bad
theorem DicF.ns {w : World} {K : PySem.W.Frag} {mg : Str → Option Value} {x : Str} {kvs : List (Str × Str)} (D : DicF w K mg x kvs) (z : Str) : ∃ r, PySem.W.nsIn K (He.ga K x) z = some r ∧ r.isSome = (kvs.map Prod.fst).contains z := by
  by_cases h : z ∈ kvs.map Prod.fst
  · obtain ⟨q, hq, rfl⟩ := List.mem_map.mp h
    obtain ⟨u, h1, _⟩ := D.vals q hq
    exact ⟨some u, h1, by rw [List.contains_iff_mem.mpr h]; rfl⟩
  · obtain ⟨es, n, kd, hk⟩ := D.kd
    obtain ⟨h1, h2⟩ := keys_miss hk h
    refine ⟨none, ?_, ?_⟩
    · unfold PySem.W.nsIn
      rw [kd.at_]
      simp only [h1, h2]
      rfl
    · have : (kvs.map Prod.fst).contains z = false := by
        rw [Bool.eq_false_iff]
        exact fun q => h (List.contains_iff_mem.mp q)
      rw [this]; rfl
theorem dic_f {w : World} {K : PySem.W.Frag} {h : Heap} {mg : Str → Option Value} {x : Str} {kvs : List (Str × Str)} (X : K.In h) (G : h.Ns mainGlobals mg) (d : He.dicW K (He.ga K x) = some (He.keysIn w.params (kvs.map Prod.fst))) (v : He.valsB K (He.ga K x) (kvs.map fun q => (q.1, He.Dv.glo q.2)) = true) (g : (He.Fa.glo x).ok K = true) : DicF w K mg x kvs :=
  ⟨dicW_full d, fun q hq => He.valsB_ok v (q := (q.1, He.Dv.glo q.2)) (List.mem_map.mpr ⟨q, hq, rfl⟩), He.glo_ok X G g⟩
theorem tab_eq {fa : List He.Fa} {fn : List He.DefD} {ts : List He.Tab} {w : World} {K : PySem.W.Frag} (c : He.SaysT fa fn ts w K) (i : Nat) {t : He.Tab} (h : ts[i]? = some t) : He.dicW K (t.1 K) = some (He.keysIn w.params t.2) := by
  have e : ts.map (fun t => He.dicW K (t.1 K)) = ts.map fun t => some (He.keysIn w.params t.2) := congrArg (fun z : He.AlT => z.2) c
  have e2 : (ts.map fun t => He.dicW K (t.1 K))[i]? = (ts.map fun t => some (He.keysIn w.params t.2))[i]? := by rw [e]
  rw [List.getElem?_map, List.getElem?_map, h] at e2
  exact Option.some.inj e2
section
variable {X : Cx} {T : List (Addr × Str)} {W : WX} {F0 H0 : Hp}
theorem inT_to {w : World} {K : PySem.W.Frag} {mg : Str → Option Value} {x : Str} {kvs : List (Str × Str)} (Dd : DicF w K mg x kvs) {f : Rho → Res D} {σ : L2.St} {H : Hp} {Q : VK} (h : tE K T W (inT (kvs.map Prod.fst) f) σ H Q) :
    tOp (fun a b H Q => ∃ (z : Str) (r : Option Value), a = .str z ∧ b = .ref (He.ga K x) ∧ PySem.W.nsIn K (He.ga K x) z = some r ∧ Q (.bl r.isSome) H) (tE K T W f) (tC (.ref (He.ga K x))) σ H Q := by
  obtain ⟨ρ, F, a, h⟩ := h
  refine ⟨ρ, F, a, (aft.bind (R := Rp K) h).imp fun d _ v F1 H1 _ _ q => ?_⟩
  obtain ⟨b, F2, _, n, rv, q⟩ := q
  cases rv with
  | str z =>
    obtain ⟨r, h1, h2⟩ := Dd.ns z
    refine ⟨z, r, rfl, rfl, h1, ?_⟩
    rw [h2]
    exact q (.bl _) F2 H1 (Nx.refl n.z) (.bl _)
  | _ => exact q.elim
theorem q_inT {x : Str} {kvs : List (Str × Str)} {ks : List Str} {e : Expr} {f : Rho → Res D} {p pos : Pos} (Dd : DicF X.w X.K X.mg x kvs) (hg : Gl X x) (he : DE X T W e f) (hk : kvs.map Prod.fst = ks := by rfl) (hm : behindInMarks .In (.Name x p) = false := by rfl) (hd : (x == ("__debug__" : Str)) = false := by decide) :
    DQ X T W (.Compare e [.In] [.Name x p] pos) (tst (inT ks f)) := by
  subst hk
  obtain ⟨es, n, kd, _⟩ := Dd.kd
  exact (pt_cmpR (op_in_kd kd) he (pe_glob (v := .ref (He.ga X.K x)) hg Dd.g rfl hd) hm).to fun _ _ _ h => inT_to Dd (tst_to h)
theorem e_tabF {x : Str} {kvs : List (Str × Str)} {e : Expr} {f : Rho → Res D} {p pos : Pos} (Dd : DicF X.w X.K X.mg x kvs) (hg : Gl X x) (he : DE X T W e f) (hs : PlainIx e := by exact fun _ _ => rfl) (hd : (x == ("__debug__" : Str)) = false := by decide) :
    DE X T W (.Subscript (.Name x p) e pos) (tabF kvs f) :=
  (pe_ix ix_kdict (pe_glob (v := .ref (He.ga X.K x)) hg Dd.g rfl hd) he hs).to fun σ H Q ⟨ρ, F, a, h⟩ => by
    refine ⟨ρ, F, a, (aft.bind (R := Rp X.K) h).imp fun d _ v F1 H1 _ _ q => ?_⟩
    obtain ⟨b, F2, _, n, rv, q⟩ := q
    cases rv with
    | str z =>
      have q : aft (Rp X.K) X.K T W σ F2 H1 Q (match kvs.lookup z with
        | some n => .ok (.fn n)
        | none => .bad) := q
      cases e : kvs.lookup z with
      | none => rw [e] at q; exact q.elim
      | some m =>
        rw [e] at q
        obtain ⟨u, u1, u2⟩ := Dd.vals (z, m) (PySem.mem_of_lookup e)
        obtain ⟨es, k, kd, _⟩ := Dd.kd
        exact ⟨_, z, .ref (He.ga X.K m), rfl, rfl, ⟨es, k, u, kd.at_, kd.lit, u1, u2⟩, q _ F2 H1 (Nx.refl n.z) (.fn m)⟩
    | _ => exact q.elim
/-! ### a call of a name that holds a def -/
def callF (i : Nat) (disp : Str → Option (List D → Res D)) (f : Rho → Res (List D)) : Rho → Res D := fun ρ => match ρ[i]? with
  | some (.z (.fn n)) => (match disp n with
    | some g => (f ρ).bind g
    | none => .bad)
  | _ => .bad
theorem e_callF {k i : Nat} {x : Str} {E : XK} {disp : Str → Option (List D → Res D)} {e : Expr} {es : List Expr} {p pos : Pos} {f : Rho → Res (List D)}
    (O : ∀ n g, disp n = some g → ∃ den m j, j ≤ k ∧ OkD X.prog X.w X.K X.mg X.base T j n m den ∧ ∀ ds, g ds = if ds.length = m then den ds else .bad) (hr : Room k X.A) (tk : Takes X (WofE E)) (hN : X.N[i]? = some x) (hv : Vis X.env.scope x) (ha : DA X T (WofE E) (e :: es) f)
    (hdb : (x == ("__debug__" : Str)) = false := by decide) (hcd : (x == ("__classdict__" : Str)) = false := by decide) (he : starEach (e :: es) X.env = (false, eval e X.env) :: starEach es X.env := by rfl) (hpl : (backTo pos (starEach es X.env)).any (·.1) = false := by rfl) :
    DE X T (WofE E) (.Call (.Name x p) (e :: es) [] pos) (callF i disp f) := by
  refine ⟨fun pins s σ H Q I h => ?_⟩
  obtain ⟨ρ, F, a, h⟩ := h
  unfold callF at h
  cases e1 : ρ[i]? with
  | none => rw [e1] at h; exact h.elim
  | some en =>
    rw [e1] at h
    cases en with
    | u => exact h.elim
    | o d => exact h.elim
    | z d =>
      cases d with
      | fn n =>
        have h : aft (Rp X.K) X.K T (WofE E) σ F H Q (match disp n with
          | some g => (f ρ).bind g
          | none => .bad) := h
        obtain ⟨v, h1, h2⟩ := a.r.z i _ e1
        cases h2
        cases e2 : disp n with
        | none => rw [e2] at h; exact h.elim
        | some g =>
          rw [e2] at h
          have h : aft (Rp X.K) X.K T (WofE E) σ F H Q ((f ρ).bind g) := h
          obtain ⟨den, m, j, hj, Ok, hdisp⟩ := O n g e2
          obtain ⟨fd, ps, G, b⟩ := Ok.ex
          refine (pe_callL (i := i) (E := E) (dvs := []) (ds := []) G (hr.mono hj) hN hv Ok.kp b .nil (passes_call tk fun _ _ _ _ q => q) ha hdb hcd he hpl).run pins s σ H Q I ⟨h1, ρ, F, a, (aft.bind (R := RpAll X.K) h).imp fun ds _ vs F1 H1 _ _ q => ?_⟩
          obtain ⟨ds', F2, _, nx, rs, q⟩ := q
          rw [List.append_nil]
          rw [hdisp] at q
          split at q
          · rename_i hl
            refine ⟨F2, ds', nx.z, nx.tab a.t, rs, hl, ?_⟩
            cases e : den ds' with
            | ok d => rw [e] at q; exact q
            | ex m => rw [e] at q; exact q
            | bad => rw [e] at q; exact q.elim
          · exact q.elim
      | _ => exact h.elim
/-! ### try with two handlers -/
def noex : SR → SR
  | .ex _ _ => .bad
  | r => r
theorem noex_aft {K : PySem.W.Frag} {T : List (Addr × Str)} {W : WX} {F0 H0 F : Hp} {Z : Ends} {r : SR} (h : aftS K T W F0 H0 F Z (noex r)) : aftS K T (fun _ _ _ _ => False) F0 H0 F Z r := by
  cases r with
  | ex n ρ => exact h.elim
  | nx ρ => exact h
  | rt d => exact h
  | bk ρ => exact h
  | ct ρ => exact h
  | bad => exact h
def stry2 (s : Rho → SR) (n1 : Str) (h1 : Rho → SR) (n2 : Str) (h2 : Rho → SR) : Rho → SR := fun ρ => match s ρ with
  | .ex n ρ' => if n = n1 then noex (h1 ρ') else if n = n2 then noex (h2 ρ') else .bad
  | r => r
theorem s_try2 {body : List Stmt} {b1 b2 : Stmt} {r1 r2 : List Stmt} {n1 n2 : Str} {s h1 h2 : Rho → SR} {p1 p2 p3 p4 pos : Pos} (hs : X.stack = X.env :: X.outer) (hf : X.env.frame = some X.env.locals) (c1 : Names X n1 (.ref (He.ga X.K n1))) (c2 : Names X n2 (.ref (He.ga X.K n2)))
    (m11 : PySem.W.exmOne X.K (.ref (He.ga X.K n1)) (.ref (He.ga X.K n1)) = some true) (m21 : PySem.W.exmOne X.K (.ref (He.ga X.K n2)) (.ref (He.ga X.K n1)) = some (decide (n2 = n1))) (m22 : PySem.W.exmOne X.K (.ref (He.ga X.K n2)) (.ref (He.ga X.K n2)) = some true)
    (hb : ∀ (W : WX) (pn : List (Addr × Obj)) (xe : Value → Shared → Prop), Takes (X.tr pn xe) W → PassesOwn (model X.prog X.w) X.A X.env xe → DSs (X.tr pn xe) T W F0 H0 body s)
    (hh1 : ∀ (a : Addr) (oe : Obj) (pn : List (Addr × Obj)), DSs (X.suite a ((a, oe) :: pn)) T (fun _ _ _ _ => False) F0 H0 (b1 :: r1) h1) (hh2 : ∀ (a : Addr) (oe : Obj) (pn : List (Addr × Obj)), DSs (X.suite a ((a, oe) :: pn)) T (fun _ _ _ _ => False) F0 H0 (b2 :: r2) h2) :
    DS X T W F0 H0 (.Try body [.ExceptHandler (some (.Name n1 p1)) none (b1 :: r1) p2, .ExceptHandler (some (.Name n2 p3)) none (b2 :: r2) p4] [] [] pos) (stry2 s n1 h1 n2 h2) :=
  (ps_try_many (tb := fun W => tS X.K T W F0 H0 s) (Wout := fun _ _ _ _ => False) hs hf LamX.takes0 hb
    (.cons (ts := fun _ _ _ => tS X.K T (fun _ _ _ _ => False) F0 H0 h1) c1 (fun a oe cls d pn _ _ => hh1 a oe pn) (.cons (ts := fun _ _ _ => tS X.K T (fun _ _ _ _ => False) F0 H0 h2) c2 (fun a oe cls d pn _ _ => hh2 a oe pn) .nil))).to fun Z σ H ⟨ρ, F, g, h⟩ => by
    refine ⟨ρ, F, g, ?_⟩
    unfold stry2 at h
    cases e : s ρ with
    | nx ρ' => rw [e] at h; exact h
    | bk ρ' => rw [e] at h; exact h
    | ct ρ' => rw [e] at h; exact h
    | rt d => rw [e] at h; exact h
    | bad => rw [e] at h; exact h
    | ex n ρ' =>
      rw [e] at h
      have h : aftS X.K T W F0 H0 F Z (if n = n1 then noex (h1 ρ') else if n = n2 then noex (h2 ρ') else .bad) := h
      intro σ' F' H' g' sb
      by_cases q1 : n = n1
      · subst q1
        rw [if_pos rfl] at h
        exact ⟨true, m11, fun _ a _ => ⟨ρ', F', g', aftS.mono sb (noex_aft h)⟩, fun z => by cases z⟩
      · rw [if_neg q1] at h
        by_cases q2 : n = n2
        · subst q2
          rw [if_pos rfl] at h
          refine ⟨false, by rw [m21, decide_eq_false q1], fun z => (by cases z), fun _ => ⟨true, m22, fun _ a _ => ⟨ρ', F', g', aftS.mono sb (noex_aft h)⟩, fun z => by cases z⟩⟩
        · rw [if_neg q2] at h
          exact h.elim
end
end DN
namespace DN
open PySem PySem.Spec PyProof.Rows L2
open LamX (Tabs ExtN)

theorem lt1 {a c : Nat} (h : a + 64 < c) : a + 1 < c := by omega
theorem tup_strs {K : PySem.W.Frag} {H : Hp} {a : Addr} {zs : List Str} (h : SqT K H a ((zs.map He.Dv.str).map (He.Dv.v K))) : SqT K H a (zs.map V.str) := by
  rw [List.map_map] at h
  exact h
theorem tup_ints {K : PySem.W.Frag} {H : Hp} {a : Addr} {zs : List Int} (h : SqT K H a ((zs.map He.Dv.int).map (He.Dv.v K))) : SqT K H a (zs.map V.int) := by
  rw [List.map_map] at h
  exact h
section
variable {X : Cx} {T : List (Addr × Str)} {W : WX} {F0 H0 : Hp}
theorem e_gtupI {x : Str} {zs : List Int} {pos : Pos} (h : X.mg x = some (.ref (He.ga X.K x))) (ht : ∀ H, SqT X.K H (He.ga X.K x) (zs.map V.int)) (hg : Gl X x) (hd : (x == ("__debug__" : Str)) = false := by decide) : DE X T W (.Name x pos) (con (.tup (zs.map D.int))) :=
  e_c (pe_glob (v := .ref (He.ga X.K x)) hg h rfl hd) fun F => .tup (ht F) (RpAll.ints zs)
/-! ### a display of text keys that is used at once -/
structure DP (X : Cx) (T : List (Addr × Str)) (W : WX) (pos : Pos) (keys : List (Option Expr)) (values : List Expr) (ks : List Str) (f : Rho → Res (List D)) : Prop where
  ex : ∃ trs, PPs X pos keys values trs ∧ ∀ σ H (Q : List (V × V) → Hp → Prop), tA X.K T W f σ H (fun vs H' => Q ((ks.zip vs).map fun q => (V.str q.1, q.2)) H') → tPairs trs σ H Q
  len : keys.length = ks.length
  some : keys.all (·.isSome) = true
  vlen : keys.length = values.length
theorem dp_nil {pos : Pos} : DP X T W pos [] [] [] anil := ⟨⟨[], pps_nil, fun σ H Q ⟨ρ, F, a, h⟩ => h [] F H (Nx.refl a.z) .nil⟩, rfl, rfl, rfl⟩
theorem dp_cons {pos p : Pos} {j : Nat} {k : Str} {v : Expr} {keys : List (Option Expr)} {values : List Expr} {ks : List Str} {f : Rho → Res D} {g : Rho → Res (List D)} (hv : DE X T W v f) (hr : DP X T W pos keys values ks g) :
    DP X T W pos (some (.Constant (.str k) j p) :: keys) (v :: values) (k :: ks) (acons f g) := by
  obtain ⟨trs, h1, h2⟩ := hr.ex
  refine ⟨⟨_, pps_cons pe_str hv h1, fun σ H Q ⟨ρ, F, a, h⟩ => ?_⟩, by rw [List.length_cons, List.length_cons, hr.len], by rw [List.all_cons, hr.some]; rfl, by rw [List.length_cons, List.length_cons, hr.vlen]⟩
  show tE X.K T W f σ H fun y H2 => tPairs trs σ H2 fun ps H3 => Q ((V.str k, y) :: ps) H3
  refine ⟨ρ, F, a, (aft.bind (R := Rp X.K) h).imp fun d _ v F1 H1 _ _ q => ?_⟩
  obtain ⟨b, F2, _, n, rv, q⟩ := q
  refine h2 σ H1 _ ⟨ρ, F2, a.nx n, (aft.bind (R := RpAll X.K) q).imp fun ds _ vs F3 H3 _ _ q => ?_⟩
  obtain ⟨ds', F4, _, n2, rs, q⟩ := q
  exact q.ok (Nx.refl n2.z) (.cons (rv.mono n2.f) rs)
theorem merge_new : ∀ (more acc : List (Key × V)), (∀ k ∈ more.map Prod.fst, k ∉ acc.map Prod.fst) → (more.map Prod.fst).Nodup → mergeK acc more = acc ++ more
  | [], acc, _, _ => by show acc = acc ++ []; rw [List.append_nil]
  | p :: r, acc, h, hn => by
    rw [List.map_cons, List.nodup_cons] at hn
    have e : putK acc p.1 p.2 = acc ++ [p] := by
      unfold putK
      rw [if_neg]
      intro z
      obtain ⟨q, hq, e⟩ := List.any_eq_true.mp z
      exact h p.1 List.mem_cons_self (by rw [← of_decide_eq_true e]; exact List.mem_map.mpr ⟨q, hq, rfl⟩)
    show mergeK (putK acc p.1 p.2) r = _
    rw [e, merge_new r (acc ++ [p]) (fun k hk hq => ?_) hn.2, List.append_assoc]
    · rfl
    · rw [List.map_append, List.mem_append] at hq
      rcases hq with hq | hq
      · exact h k (List.mem_cons_of_mem _ hk) hq
      · simp at hq
        rw [hq] at hk
        exact hn.1 hk
theorem zip_fst {α β : Type} : ∀ {a : List α} {b : List β}, a.length = b.length → (a.zip b).map Prod.fst = a
  | [], [], _ => rfl
  | x :: a, y :: b, h => by
    rw [List.zip_cons_cons, List.map_cons, zip_fst (by simpa using h)]
theorem val_look {K : PySem.W.Frag} {F : Hp} {z : Str} : ∀ {ks : List Str} {vs : List V} {ds : List D}, RpAll K F vs ds → ks.length = vs.length →
    ((∃ v d, valV (kvK ks vs) (Sum.inr z) = some v ∧ (ks.zip ds).lookup z = some d ∧ Rp K F v d) ∨ (valV (kvK ks vs) (Sum.inr z) = none ∧ (ks.zip ds).lookup z = none))
  | [], [], [], _, _ => .inr ⟨rfl, rfl⟩
  | k :: ks, v :: vs, d :: ds, .cons h t, hl => by
    by_cases e : k = z
    · subst e
      refine .inl ⟨v, d, valV_pos rfl, ?_, h⟩
      simp [List.lookup]
    · have e2 : (z == k) = false := beq_eq_false_iff_ne.mpr fun q => e q.symm
      have e3 : valV (kvK (k :: ks) (v :: vs)) (Sum.inr z) = valV (kvK ks vs) (Sum.inr z) := valV_neg (p := (Sum.inr k, v)) fun q => e (Sum.inr.inj q)
      have e4 : ((k :: ks).zip (d :: ds)).lookup z = (ks.zip ds).lookup z := by
        rw [List.zip_cons_cons, List.lookup_cons, e2]
      rw [e3, e4]
      exact val_look t (by simpa using hl)
theorem tabs_updD {T : List (Addr × Str)} {H : Hp} {p : Addr} {xs : List (Key × V)} {o : HO} (h : Tabs T H) (e : H p = some (.dK xs)) : Tabs T (upd H p o) := fun q hq => by
  obtain ⟨ps, h1, h2, h3⟩ := h q hq
  refine ⟨ps, ?_, h2, fun pos cv hc => ?_⟩
  · rw [upd_ne fun z => by rw [z, e] at h1; cases h1]; exact h1
  · obtain ⟨c, e1, e2⟩ := h3 pos cv hc
    refine ⟨c, e1, ?_⟩
    rw [upd_ne fun z => by rw [z, e] at e2; unfold LamX.CodeO at e2; cases e2]; exact e2
/-- a dict laid empty at p, filled behind the values -/
theorem nx_fill {F H F1 H1 : Hp} {p : Addr} {o : HO} (z : Fz F H) (hp : H p = none) (n1 : Nx T F (upd H p (.dK [])) F1 H1) : Nx T F H F1 (upd H1 p o) ∧ H1 p = some (.dK []) := by
  have fp : F p = none := by
    cases q : F p with
    | none => rfl
    | some u =>
      have := z.sub _ _ q
      rw [hp] at this; cases this
  have k1 : H1 p = some (.dK []) := n1.keep upd_same fun ps q => by cases q
  have f1 : F1 p = none := n1.out (a := p) (o := .dK []) upd_same (fun ps q => by cases q) fp
  refine ⟨⟨n1.f, ⟨fun x u e => ?_, n1.z.nt⟩, fun b u e nt => ?_, fun x u e => ?_, fun t => ?_⟩, k1⟩
  · rw [upd_ne fun q => by rw [q, f1] at e; cases e]
    exact n1.z.sub _ _ e
  · have hb : b ≠ p := ne_of_none e hp
    rw [upd_ne hb]
    exact n1.h b u (by rw [upd_ne hb]; exact e) nt
  · rcases n1.new x u e with h | h
    · exact .inl h
    · exact .inr fun o' e' => h o' (by rw [upd_ne (ne_of_none e' hp)]; exact e')
  · exact tabs_updD (n1.tab ((Nx.lay (T := T) z hp).tab t)) k1
def dgetD (ks : List Str) (f : Rho → Res (List D)) (fe fg : Rho → Res D) : Rho → Res D := fun ρ => (f ρ).bind fun ds => if ds.length = ks.length then (fe ρ).bind fun k => (fg ρ).bind fun d => (match k with
  | .str z => .ok (((ks.zip ds).lookup z).getD d)
  | _ => .bad) else .bad
theorem e_dget {pos apos cpos : Pos} {keys : List (Option Expr)} {values : List Expr} {ks : List Str} {f : Rho → Res (List D)} {e g : Expr} {fe fg : Rho → Res D} (hu : X.A.units + 1 < cLine) (hd : DP X T W pos keys values ks f) (he : DE X T W e fe) (hg : DE X T W g fg) (h0 : keys ≠ []) (h15 : ks.length ≤ 15) (hnd : ks.Nodup)
    (m : M2 X (.Dict keys values pos) "get" apos e g cpos) : DE X T W (.Call (.Attribute (.Dict keys values pos) "get" apos) [e, g] [] cpos) (dgetD ks f fe fg) := by
  obtain ⟨trs, h1, ht⟩ := hd.ex
  refine (pe_dget2 hu (pe_disp h1 hd.some hd.vlen h0 (by rw [hd.len]; exact h15)) he hg m).to fun σ H Q ⟨ρ, F, a, h⟩ => ?_
  intro p hp
  have n0 : Nx T F H F (upd H p (.dK [])) := Nx.lay a.z hp
  refine ht σ _ _ ⟨ρ, F, a.nx n0, ((aft.bind (R := RpAll X.K) (aft.mono n0 h))).imp fun ds _ vs F1' H1 _ _ q => ?_⟩
  obtain ⟨ds', F1, e', n1, rv, _⟩ := q
  obtain ⟨nf, k1⟩ := nx_fill (o := .dK (kvK ks vs)) a.z hp n1
  have h' := aft.mono nf h
  unfold dgetD at h'
  rw [e'] at h'
  have h' : aft (Rp X.K) X.K T W σ F1 (upd H1 p (.dK (kvK ks vs))) Q (if ds'.length = ks.length then (fe ρ).bind fun k => (fg ρ).bind fun d => (match k with
    | .str z => .ok (((ks.zip ds').lookup z).getD d)
    | _ => .bad) else .bad) := h'
  by_cases hl : ds'.length = ks.length
  · rw [if_pos hl] at h'
    have hlv : ks.length = vs.length := by rw [rv.length, hl]
    have hm : mergeK [] (kvK ks vs) = kvK ks vs := by
      rw [merge_new _ _ (fun k _ q => by cases q)]
      · rfl
      · unfold kvK
        rw [List.map_map]
        have e2 : ((fun q : Str × V => ((Sum.inr q.1 : Key), q.2)) · |>.1) = fun q : Str × V => (Sum.inr q.1 : Key) := rfl
        have e3 : (ks.zip vs).map (Prod.fst ∘ fun q => ((Sum.inr q.1 : Key), q.2)) = ks.map Sum.inr := by
          have : (Prod.fst ∘ fun q : Str × V => ((Sum.inr q.1 : Key), q.2)) = Sum.inr ∘ Prod.fst := rfl
          rw [this, ← List.map_map, zip_fst hlv]
        rw [e3]
        exact List.Pairwise.map _ (fun _ _ q z => q (Sum.inr.inj z)) hnd
    refine ⟨k1, kvK ks vs, ?_, ?_, p, rfl, ?_⟩
    · unfold kvK
      rw [List.map_map]
      rfl
    · unfold kvK
      rw [List.length_map, List.length_zip]
      omega
    · rw [hm]
      refine ⟨.inl ⟨_, .inl upd_same⟩, ρ, F1, a.nx nf, (aft.bind (R := Rp X.K) h').imp fun d _ y F2 H2 _ _ q => ?_⟩
      obtain ⟨k, F3, _, n3, ry, q⟩ := q
      refine ⟨ρ, F3, (a.nx nf).nx n3, (aft.bind (R := Rp X.K) q).imp fun d2 _ z F4 H4 _ _ q => ?_⟩
      obtain ⟨dd, F5, _, n5, rz, q⟩ := q
      have kp : H4 p = some (.dK (kvK ks vs)) := n5.keep (n3.keep upd_same fun ps z => by cases z) fun ps z => by cases z
      cases ry with
      | str x =>
        have q : aft (Rp X.K) X.K T W σ F5 H4 Q (.ok (((ks.zip ds').lookup x).getD dd)) := q
        refine ⟨_, .inl ⟨_, Sum.inr x, .inl kp, rfl, rfl⟩, ?_⟩
        rcases val_look (z := x) (RpAll.mono (n3.f.trans n5.f) rv) hlv with ⟨v, d, w1, w2, w3⟩ | ⟨w1, w2⟩
        · rw [w1]
          rw [w2] at q
          exact q v F5 H4 (Nx.refl n5.z) w3
        · rw [w1]
          rw [w2] at q
          exact q z F5 H4 (Nx.refl n5.z) rz
      | _ => exact q.elim
  · rw [if_neg hl] at h'
    exact h'.elim
end
end DN
namespace DN
open PySem PySem.Spec PyProof.Rows L2
open LamX (Tabs ExtN)

section
variable {X : Cx} {T : List (Addr × Str)} {W : WX} {F0 H0 : Hp}
/-! ### a display of text keys, its item taken at once -/
end
/-! ### a module's dict of texts -/
structure DicS (w : World) (K : PySem.W.Frag) (mg : Str → Option Value) (x : Str) (kvs : List (Str × Str)) : Prop where
  kd : ∃ es n, KDict K w (He.ga K x) es n ∧ es.toList.map He.keyOf = He.keysIn w.params (kvs.map Prod.fst)
  vals : ∀ q ∈ kvs, ∃ u, PySem.W.nsIn K (He.ga K x) q.1 = some (some u) ∧ RelV (.str q.2) u
  g : mg x = some (.ref (He.ga K x))
theorem DicS.ns {w : World} {K : PySem.W.Frag} {mg : Str → Option Value} {x : Str} {kvs : List (Str × Str)} (D : DicS w K mg x kvs) (z : Str) : ∃ r, PySem.W.nsIn K (He.ga K x) z = some r ∧ r.isSome = (kvs.map Prod.fst).contains z := by
  by_cases h : z ∈ kvs.map Prod.fst
  · obtain ⟨q, hq, rfl⟩ := List.mem_map.mp h
    obtain ⟨u, h1, _⟩ := D.vals q hq
    exact ⟨some u, h1, by rw [List.contains_iff_mem.mpr h]; rfl⟩
  · obtain ⟨es, n, kd, hk⟩ := D.kd
    obtain ⟨h1, h2⟩ := keys_miss hk h
    refine ⟨none, ?_, ?_⟩
    · unfold PySem.W.nsIn
      rw [kd.at_]
      simp only [h1, h2]
      rfl
    · have : (kvs.map Prod.fst).contains z = false := by
        rw [Bool.eq_false_iff]
        exact fun q => h (List.contains_iff_mem.mp q)
      rw [this]; rfl
section
variable {X : Cx} {T : List (Addr × Str)} {W : WX} {F0 H0 : Hp}
/-! ### a def of which nothing is promised: the recursion's ground -/
end
end DN
/-! lists of the frame's own: made, appended to, stored into, read, frozen -/
namespace DN
open PySem PySem.Spec PyProof.Rows L2
open LamX (Tabs ExtN)

def D.flat : D → Bool
  | .non => true
  | .bl _ => true
  | .int _ => true
  | .str _ => true
  | _ => false
def flatR : Res D → Res D
  | .ok d => if d.flat = true then .ok d else .bad
  | r => r
def frz (i : Nat) (ρ : Rho) : Rho := match ρ[i]? with
  | some (.o (.lst ds)) => ρ.set i (.z (.lst ds))
  | _ => ρ
def bor (i : Nat) (f : Rho → Res D) : Rho → Res D := fun ρ => flatR (f (frz i ρ))
def borQ (i : Nat) (f : Rho → Res Bool) : Rho → Res Bool := fun ρ => f (frz i ρ)
theorem Rp.flat {K : PySem.W.Frag} {F F' : Hp} {v : V} {d : D} (h : Rp K F v d) (e : d.flat = true) : Rp K F' v d := by
  cases h <;> first | exact .non | exact .bl _ | exact .int _ | exact .str _ | cases e
section
variable {K : PySem.W.Frag} {T : List (Addr × Str)} {W : WX} {F0 H0 F H : Hp} {σ : L2.St} {ρ : Rho}
theorem At.frz (a : At K T F H σ ρ) (i : Nat) : ∃ F1, At K T F1 H σ (frz i ρ) ∧ Sub F F1 ∧ (∀ F' H', Nx T F1 H F' H' → Nx T F H F H') ∧ (∀ F0 H0, Nx T F0 H0 F H → Ow H0 σ ρ → Nx T F0 H0 F1 H ∧ Ow H0 σ (frz i ρ)) := by
  have triv : ∃ F1, At K T F1 H σ ρ ∧ Sub F F1 ∧ (∀ F' H', Nx T F1 H F' H' → Nx T F H F H') ∧ (∀ F0 H0, Nx T F0 H0 F H → Ow H0 σ ρ → Nx T F0 H0 F1 H ∧ Ow H0 σ ρ) :=
    ⟨F, a, Sub.refl F, fun F' H' n => ⟨Sub.refl F, ⟨n.f.trans n.z.sub, a.z.nt⟩, n.h, fun _ _ h => .inl h, n.tab⟩, fun F0 H0 n o => ⟨n, o⟩⟩
  unfold DN.frz
  split
  · rename_i ds e
    obtain ⟨p, hs, hp, xs, hx, rx⟩ := a.r.o i _ e
    have sb : Sub F (upd F p (.lst xs)) := fun b o eb => by
      rw [upd_ne fun z => by rw [z, hp] at eb; cases eb]; exact eb
    have z1 : Fz (upd F p (.lst xs)) H := ⟨fun b o eb => by
      by_cases hb : b = p
      · subst hb; rw [upd_same] at eb; rw [← eb]; exact hx
      · rw [upd_ne hb] at eb; exact a.z.sub _ _ eb, fun b ps eb => by
      by_cases hb : b = p
      · subst hb; rw [upd_same] at eb; cases eb
      · rw [upd_ne hb] at eb; exact a.z.nt _ _ eb⟩
    have il : i < ρ.length := (List.getElem?_eq_some_iff.mp e).1
    refine ⟨upd F p (.lst xs), ⟨z1, a.t, ?_⟩, sb, fun F' H' n => ⟨Sub.refl F, ⟨sb.trans (n.f.trans n.z.sub), a.z.nt⟩, n.h, fun _ _ h => .inl h, n.tab⟩, fun F0 H0 n o => ⟨⟨n.f.trans sb, z1, n.h, fun b u eb => ?_, n.tab⟩, fun j d q h1 h2 => ?_⟩⟩
    · refine ⟨by rw [List.length_set]; exact a.r.len, fun j d hj => ?_, fun j d hj => ?_, fun j k d1 d2 q1 q2 hn h1 h2 h3 h4 => ?_⟩
      · rw [List.getElem?_set] at hj
        by_cases hij : i = j
        · subst hij
          rw [if_pos rfl, if_pos il] at hj
          cases hj
          exact ⟨_, hs, .lst upd_same (rx.mono sb)⟩
        · rw [if_neg hij] at hj
          obtain ⟨v, h1, h2⟩ := a.r.z j d hj
          exact ⟨v, h1, h2.mono sb⟩
      · rw [List.getElem?_set] at hj
        by_cases hij : i = j
        · subst hij
          rw [if_pos rfl, if_pos il] at hj
          cases hj
        · rw [if_neg hij] at hj
          obtain ⟨q, h1, h2, h3⟩ := a.r.o j d hj
          have hne : p ≠ q := a.r.ne i j _ _ p q hij e hj hs h1
          refine ⟨q, h1, by rw [upd_ne (Ne.symm hne)]; exact h2, ?_⟩
          cases d with
          | lst es => obtain ⟨ys, k1, k2⟩ := h3; exact ⟨ys, k1, k2.mono sb⟩
          | dK _ => exact h3
          | dT _ => exact h3
          | dic _ _ _ _ => obtain ⟨es, k1, k2⟩ := h3; exact ⟨es, k1, k2.mono sb⟩
          | ins _ _ _ => obtain ⟨dx, ws, k1, k2⟩ := h3; exact ⟨dx, ws, k1, k2.mono sb⟩
          | _ => exact h3.elim
      · rw [List.getElem?_set] at h1 h2
        have fj : i ≠ j := fun z => by rw [if_pos z] at h1; split at h1 <;> cases h1
        have fk : i ≠ k := fun z => by rw [if_pos z] at h2; split at h2 <;> cases h2
        rw [if_neg fj] at h1
        rw [if_neg fk] at h2
        exact a.r.ne j k d1 d2 q1 q2 hn h1 h2 h3 h4
    · by_cases hb : b = p
      · subst hb
        exact .inr fun o' e' => .inl (o i _ b e hs o' e')
      · rw [upd_ne hb] at eb; exact n.new _ _ eb
    · rw [List.getElem?_set] at h1
      by_cases hij : i = j
      · subst hij
        rw [if_pos rfl, if_pos il] at h1
        cases h1
      · rw [if_neg hij] at h1
        exact o j d q h1 h2
  · exact triv
end
section
variable {X : Cx} {T : List (Addr × Str)} {W : WX} {F0 H0 : Hp}
theorem e_bor {e : Expr} {f : Rho → Res D} (i : Nat) (h : DE X T W e f) : DE X T W e (bor i f) := h.to fun σ H Q ⟨ρ, F, a, q⟩ => by
  obtain ⟨F1, a1, sb, back, _⟩ := a.frz i
  refine ⟨DN.frz i ρ, F1, a1, ?_⟩
  unfold bor at q
  cases e : f (DN.frz i ρ) with
  | ok d =>
    rw [e] at q
    have q : aft (Rp X.K) X.K T W σ F H Q (if d.flat = true then .ok d else .bad) := q
    split at q
    · rename_i hf
      exact fun v F' H' n r => q v F H' (back F' H' n) (r.flat hf)
    · exact q.elim
  | ex m =>
    rw [e] at q
    exact fun F' H' n => q F H' (back F' H' n)
  | bad => rw [e] at q; exact q
theorem q_bor {e : Expr} {f : Rho → Res Bool} (i : Nat) (h : DQ X T W e f) : DQ X T W e (borQ i f) := h.to fun σ H Q ⟨ρ, F, a, q⟩ => by
  obtain ⟨F1, a1, sb, back, _⟩ := a.frz i
  refine ⟨DN.frz i ρ, F1, a1, ?_⟩
  unfold borQ at q
  cases e : f (DN.frz i ρ) with
  | ok d =>
    rw [e] at q
    exact fun v F' H' n r => q v F H' (back F' H' n) r
  | ex m =>
    rw [e] at q
    exact fun F' H' n => q F H' (back F' H' n)
  | bad => rw [e] at q; exact q
def sfrz (i : Nat) (s : Rho → SR) : Rho → SR := fun ρ => s (frz i ρ)
theorem s_frz {st : List Stmt} {s : Rho → SR} (i : Nat) (h : DSs X T W F0 H0 st s) : DSs X T W F0 H0 st (sfrz i s) := h.to fun Z σ H ⟨ρ, F, g, q⟩ => by
  obtain ⟨F1, a1, sb, _, fw⟩ := g.at_.frz i
  obtain ⟨n1, o1⟩ := fw F0 H0 g.nx g.ow
  exact ⟨DN.frz i ρ, F1, ⟨a1, n1, o1⟩, aftS.mono sb q⟩
end

/-! ### made -/
def aftO (K : PySem.W.Frag) (T : List (Addr × Str)) (W : WX) (σ : L2.St) (F H : Hp) (Q : V → Hp → Prop) : Res D → Prop
  | .ok (.lst ds) => ∀ p vs F' H', Nx T F H F' H' → F' p = none → H' p = some (.lst vs) → RpAll K F' vs ds → (∀ o, H p = some o → ∃ ps, o = .tbl ps) → Q (.ref p) H'
  | .ok _ => False
  | .ex n => ∀ F' H', Nx T F H F' H' → W (.ref (He.ga K n)) none σ H'
  | .bad => False
def tO (K : PySem.W.Frag) (T : List (Addr × Str)) (W : WX) (f : Rho → Res D) : TE := fun σ H Q => ∃ ρ F, At K T F H σ ρ ∧ aftO K T W σ F H Q (f ρ)
abbrev DOw (X : Cx) (T : List (Addr × Str)) (W : WX) (e : Expr) (f : Rho → Res D) : Prop := PE X e (tO X.K T W f)
def sown (f : Rho → Res D) (i : Nat) : Rho → SR := fun ρ => bindS (f ρ) ρ fun d => match d with
  | .lst ds => .nx (ρ.set i (.o (.lst ds)))
  | _ => .bad
section
variable {K : PySem.W.Frag} {T : List (Addr × Str)} {W : WX} {F0 H0 F H : Hp} {σ : L2.St} {ρ : Rho}
theorem frn {p : Addr} (z : Fz F H) (hp : H p = none) : F p = none := by
  cases q : F p with
  | none => rfl
  | some o => have := z.sub _ _ q; rw [hp] at this; cases this
theorem Rl.setO {i : Nat} {p : Addr} {vs : List V} {ds : List D} (r : Rl K F H σ ρ) (hp : F p = none) (hx : H p = some (.lst vs)) (rx : RpAll K F vs ds) (fr : ∀ (j : Nat) (d : D) (q : Addr), ρ[j]? = some (En.o d) → σ[j]? = some (some (V.ref q)) → q ≠ p) :
    Rl K F H (σ.set i (some (.ref p))) (ρ.set i (.o (.lst ds))) where
  len := by rw [List.length_set, List.length_set]; exact r.len
  z := fun j e hj => by
    rw [List.getElem?_set] at hj ⊢
    by_cases hij : i = j
    · subst hij
      rw [if_pos rfl] at hj
      split at hj <;> cases hj
    · rw [if_neg hij] at hj ⊢
      exact r.z j e hj
  o := fun j e hj => by
    rw [List.getElem?_set] at hj ⊢
    by_cases hij : i = j
    · subst hij
      rw [if_pos rfl] at hj ⊢
      by_cases hl : i < ρ.length
      · rw [if_pos hl] at hj
        rw [if_pos (by rw [r.len]; exact hl)]
        cases hj
        exact ⟨p, rfl, hp, vs, hx, rx⟩
      · rw [if_neg hl] at hj; cases hj
    · rw [if_neg hij] at hj ⊢
      exact r.o j e hj
  ne := fun j k a b q1 q2 hn h1 h2 h3 h4 => by
    rw [List.getElem?_set] at h1 h2 h3 h4
    by_cases fj : i = j
    · have fk : i ≠ k := fun z => hn (fj.symm.trans z)
      rw [if_neg fk] at h2 h4
      rw [if_pos fj] at h3
      have : q1 = p := by split at h3 <;> cases h3; rfl
      rw [this]
      exact Ne.symm (fr k _ q2 h2 h4)
    · rw [if_neg fj] at h1 h3
      by_cases fk : i = k
      · rw [if_pos fk] at h4
        have : q2 = p := by split at h4 <;> cases h4; rfl
        rw [this]
        exact fr j _ q1 h1 h3
      · rw [if_neg fk] at h2 h4
        exact r.ne j k a b q1 q2 hn h1 h2 h3 h4
theorem Ow.setO {i : Nat} {p : Addr} {d : D} (o : Ow H0 σ ρ) (hp : ∀ o, H0 p = some o → ∃ ps, o = .tbl ps) : Ow H0 (σ.set i (some (.ref p))) (ρ.set i (.o d)) := fun j e q h1 h2 => by
  rw [List.getElem?_set] at h1 h2
  by_cases hij : i = j
  · rw [if_pos hij] at h2
    have : q = p := by split at h2 <;> cases h2; rfl
    rw [this]; exact hp
  · rw [if_neg hij] at h1 h2
    exact o j e q h1 h2
theorem ntL' {vs : List V} : ∀ ps, HO.lst vs ≠ .tbl ps := fun ps z => by cases z
/-- an own list made at p, bound to slot i -/
theorem Sg.own {F1 H1 : Hp} {i : Nat} {p : Addr} {vs : List V} {ds : List D} (g : Sg K T F0 H0 F H σ ρ) (n : Nx T F H F1 H1) (hp : F1 p = none) (hx : H1 p = some (.lst vs)) (rx : RpAll K F1 vs ds) (fr : ∀ o, H p = some o → ∃ ps, o = .tbl ps) :
    Sg K T F0 H0 F1 H1 (σ.set i (some (.ref p))) (ρ.set i (.o (.lst ds))) := by
  have g1 := g.step n
  refine ⟨⟨g1.at_.z, g1.at_.t, g1.at_.r.setO hp hx rx fun j d q h1 h2 e => ?_⟩, g1.nx, g1.ow.setO fun o ho => ?_⟩
  · obtain ⟨q', k1, k2, k3⟩ := g.at_.r.o j d h1
    rw [h2] at k1
    cases k1
    obtain ⟨o, k4, k5⟩ := k3.solid
    rw [e] at k4
    obtain ⟨ps, k6⟩ := fr o k4
    exact k5 ps k6
  · by_cases q : ∃ ps, o = .tbl ps
    · exact q
    · exact fr o (g.nx.h p o ho fun ps z => q ⟨ps, z⟩)
/-- the own list at slot i is changed -/
theorem Sg.putO {i : Nat} {p : Addr} {d : D} {xs ys : List V} {es : List D} (g : Sg K T F0 H0 F H σ ρ) (hi : ρ[i]? = some (.o d)) (hs : σ[i]? = some (some (.ref p))) (hx : H p = some (.lst xs)) (ry : RpAll K F ys es) :
    Sg K T F0 H0 F (upd H p (.lst ys)) σ (ρ.set i (.o (.lst es))) := by
  have il : i < ρ.length := (List.getElem?_eq_some_iff.mp hi).1
  have hp : F p = none := by
    obtain ⟨q, h1, h2, h3⟩ := g.at_.r.o i d hi
    rw [hs] at h1; cases h1; exact h2
  have z1 : Fz F (upd H p (.lst ys)) := ⟨fun b o eb => by
    rw [upd_ne fun z => by rw [z, hp] at eb; cases eb]; exact g.at_.z.sub _ _ eb, g.at_.z.nt⟩
  refine ⟨⟨z1, tabs_upd g.at_.t hx, ?_⟩, ⟨g.nx.f, z1, fun b o eb no => ?_, g.nx.new, fun t => tabs_upd (g.nx.tab t) hx⟩, fun j e q h1 h2 => ?_⟩
  · refine ⟨by rw [List.length_set]; exact g.at_.r.len, fun j e hj => ?_, fun j e hj => ?_, fun j k a b q1 q2 hn h1 h2 h3 h4 => ?_⟩
    · rw [List.getElem?_set] at hj
      by_cases hij : i = j
      · rw [if_pos hij] at hj
        split at hj <;> cases hj
      · rw [if_neg hij] at hj
        exact g.at_.r.z j e hj
    · rw [List.getElem?_set] at hj
      by_cases hij : i = j
      · subst hij
        rw [if_pos rfl, if_pos il] at hj
        cases hj
        exact ⟨p, hs, hp, ys, upd_same, ry⟩
      · rw [if_neg hij] at hj
        obtain ⟨q, h1, h2, h3⟩ := g.at_.r.o j e hj
        have hne : p ≠ q := g.at_.r.ne i j _ _ p q hij hi hj hs h1
        refine ⟨q, h1, h2, ?_⟩
        cases e with
        | lst es => obtain ⟨zs, k1, k2⟩ := h3; exact ⟨zs, by rw [upd_ne (Ne.symm hne)]; exact k1, k2⟩
        | dK _ => show upd H p _ q = _; rw [upd_ne (Ne.symm hne)]; exact h3
        | dT _ => show upd H p _ q = _; rw [upd_ne (Ne.symm hne)]; exact h3
        | dic _ _ _ _ => obtain ⟨es, k1, k2⟩ := h3; exact ⟨es, by rw [upd_ne (Ne.symm hne)]; exact k1, k2⟩
        | ins _ _ _ => obtain ⟨dx, ws, k1, k2⟩ := h3; exact ⟨dx, ws, by rw [upd_ne (Ne.symm hne)]; exact k1, k2⟩
        | _ => exact h3.elim
    · have o1 : ∀ j e, (ρ.set i (.o (.lst es)))[j]? = some (En.o e) → ∃ e', ρ[j]? = some (En.o e') := fun j e h => by
        rw [List.getElem?_set] at h
        by_cases hij : i = j
        · subst hij; exact ⟨d, hi⟩
        · rw [if_neg hij] at h; exact ⟨e, h⟩
      obtain ⟨a', h1⟩ := o1 j a h1
      obtain ⟨b', h2⟩ := o1 k b h2
      exact g.at_.r.ne j k a' b' q1 q2 hn h1 h2 h3 h4
  · rw [upd_ne fun z => by
      subst z
      obtain ⟨ps, k⟩ := g.ow i d b hi hs o eb
      exact no ps k]
    exact g.nx.h _ _ eb no
  · rw [List.getElem?_set] at h1
    by_cases hij : i = j
    · subst hij
      exact g.ow i d q hi h2
    · rw [if_neg hij] at h1
      exact g.ow j e q h1 h2
end
section
variable {X : Cx} {T : List (Addr × Str)} {W : WX} {F0 H0 : Hp}
theorem sown_to {f : Rho → Res D} {i : Nat} {K : PySem.W.Frag} {Z : Ends} {σ : L2.St} {H : Hp} (h : tS K T W F0 H0 (sown f i) Z σ H) : tAsg (tO K T W f) (gName i) Z σ H := by
  obtain ⟨ρ, F, g, h⟩ := h
  refine ⟨ρ, F, g.at_, ?_⟩
  unfold sown at h
  cases e : f ρ with
  | ok d =>
    rw [e] at h
    cases d with
    | lst ds =>
      have h : ∀ σ' F' H', Sg K T F0 H0 F' H' σ' (ρ.set i (.o (.lst ds))) → Sub F F' → Z.nx σ' H' := h
      exact fun p vs F1 H1 n hp hx rx fr => h _ F1 H1 (g.own n hp hx rx fr) n.f
    | _ => exact h.elim
  | ex m => rw [e] at h; exact fun F' H' n => h σ F' H' (g.step n) n.f
  | bad => rw [e] at h; exact h.elim
theorem s_own {tg e : Expr} {pos : Pos} {f : Rho → Res D} {i : Nat} (he : DOw X T W e f) (hg : PG X tg (gName i)) (hs : swapsWithSole [tg] e pos.line X.env = pure false := by rfl) (hw : swappedStores [tg] e X.env = pure none := by rfl)
    (h1 : (assignEach [tg] X.env).map (·.2) = [assign tg X.env] := by rfl) : DS X T W F0 H0 (.Assign [tg] e pos) (sown f i) :=
  (ps_asg he hg hs hw h1).to fun Z σ H h => sown_to h
theorem back_tbl {H H2 : Hp} {p : Addr} (n : ExtN H H2) (fr : ∀ o, H2 p = some o → ∃ ps, o = .tbl ps) : ∀ o, H p = some o → ∃ ps, o = .tbl ps := fun o ho => by
  by_cases q : ∃ ps, o = .tbl ps
  · exact q
  · exact fr o (n p o ho fun ps z => q ⟨ps, z⟩)
theorem aftO.bind {K : PySem.W.Frag} {σ : L2.St} {F H : Hp} {α β : Type} {R : Hp → α → β → Prop} {Q : V → Hp → Prop} {r : Res β} {k : β → Res D} (h : aftO K T W σ F H Q (r.bind k)) :
    aft R K T W σ F H (fun a H1 => ∃ b F1, r = .ok b ∧ Nx T F H F1 H1 ∧ R F1 a b ∧ aftO K T W σ F1 H1 Q (k b)) r := by
  cases r with
  | ok b =>
    refine fun a F2 H2 n ra => ⟨b, F2, rfl, n, ra, ?_⟩
    have h : aftO K T W σ F H Q (k b) := h
    cases e : k b with
    | ok d =>
      rw [e] at h
      cases d with
      | lst ds => exact fun p vs F' H' n2 hp hx rx fr => h p vs F' H' (n.trans n2) hp hx rx (back_tbl n.h fr)
      | _ => exact h.elim
    | ex m => rw [e] at h; exact fun F' H' n2 => h F' H' (n.trans n2)
    | bad => rw [e] at h; exact h.elim
  | ex m => exact h
  | bad => exact h
theorem o_lst {es : List Expr} {pos : Pos} {f : Rho → Res (List D)} (h : DA X T W es f) : DOw X T W (.List es pos) (mkL f) :=
  (pe_lst h).to fun σ H Q ⟨ρ, F, a, h⟩ => by
    refine ⟨ρ, F, a, (aftO.bind (R := RpAll X.K) h).imp fun d _ v F1 H1 _ _ q => ?_⟩
    obtain ⟨ds, F2, _, n, rv, q⟩ := q
    have q : aftO X.K T W σ F2 H1 Q (if ds.length ≤ sizeLine then .ok (.lst ds) else .bad) := q
    split at q
    · rename_i hl
      exact ⟨by rw [rv.length]; exact hl, fun p hp => q p v F2 _ (Nx.lay n.z hp) (frn n.z hp) upd_same rv fun o ho => by rw [hp] at ho; cases ho⟩
    · exact q.elim
/-! ### appended, stored, read -/
/-- the own list at slot i, if there is one -/
theorem own_at {K : PySem.W.Frag} {F H : Hp} {σ : L2.St} {ρ : Rho} {i : Nat} {ds : List D} (r : Rl K F H σ ρ) (e : ρ[i]? = some (.o (.lst ds))) : ∃ p xs, σ[i]? = some (some (.ref p)) ∧ F p = none ∧ H p = some (.lst xs) ∧ RpAll K F xs ds := by
  obtain ⟨p, h1, h2, xs, h3, h4⟩ := r.o i _ e
  exact ⟨p, xs, h1, h2, h3, h4⟩
def ownR (i : Nat) (ρ : Rho) : Res (List D) := match ρ[i]? with
  | some (.o (.lst ds)) => .ok ds
  | _ => .bad
theorem ownR_ok {i : Nat} {ρ : Rho} {ds : List D} (h : ownR i ρ = .ok ds) : ρ[i]? = some (.o (.lst ds)) := by
  unfold ownR at h
  split at h
  · rename_i e; cases h; exact e
  · cases h
def sapp (i : Nat) (f : Rho → Res D) : Rho → SR := fun ρ => bindS (ownR i ρ) ρ fun ds => bindS (f ρ) ρ fun d => if ds.length < sizeLine then .nx (ρ.set i (.o (.lst (ds ++ [d])))) else .bad
theorem s_app {x : Str} {i : Nat} {e : Expr} {p apos cpos pos : Pos} {f : Rho → Res D} (hv : PE X (.Name x p) (tVar i)) (he : DE X T W e f) (hline : (apos.endLine == cpos.line) = true := by rfl)
    (hs : swapsWith (.Call (.Attribute (.Name x p) "append" apos) [e] [] cpos) none pos.line X.env = pure false := by rfl)
    (hbase : attributeBase (.Name x p) "append" X.env (eval (.Name x p) X.env) = eval (.Name x p) X.env := by rfl)
    (hfew : ((backTo cpos (starEach [e] X.env)).all (fun x => !x.1) && (backToKw cpos (keywordEach [] X.env)).all (fun x => x.1.isSome)
      && decide (([e]).length + ([] : List Keyword).length + (if ([] : List Keyword).isEmpty then 0 else 1) < 30)) = true := by rfl)
    (h5 : starEach [e] X.env = (false, eval e X.env) :: starEach [] X.env := by rfl) (hplain : (backTo cpos (starEach [] X.env)).any (·.1) = false := by rfl) :
    DS X T W F0 H0 (.Expr (.Call (.Attribute (.Name x p) "append" apos) [e] [] cpos) pos) (sapp i f) :=
  (ps_expr (pe_bm PySem.F.plainAttrs_list PySem.F.slot_list_append PySem.F.type_list_append mt_append hv (pa_cons he pa_nil h5) hbase hfew hline h5 hplain) hs).to fun Z σ H ⟨ρ, F, g, h⟩ => by
    unfold sapp at h
    cases e : ownR i ρ with
    | bad => rw [e] at h; exact h.elim
    | ex m =>
      exfalso
      unfold ownR at e
      split at e <;> cases e
    | ok ds =>
      rw [e] at h
      have e := ownR_ok e
      obtain ⟨p, xs, h1, h2, h3, h4⟩ := own_at g.at_.r e
      have h : aftS X.K T W F0 H0 F Z (bindS (f ρ) ρ fun d => if ds.length < sizeLine then .nx (ρ.set i (.o (.lst (ds ++ [d])))) else .bad) := h
      refine ⟨_, h1, .inl ⟨rfl, xs, SqL.of h3⟩, ρ, F, g.at_, (aftS.bind (R := Rp X.K) g h).imp fun d _ v F1 H1 _ _ q => ?_⟩
      obtain ⟨d', F2, _, n, g2, rv, q⟩ := q
      split at q
      · rename_i hl
        have k3 : H1 p = some (.lst xs) := n.keep h3 ntL'
        refine ⟨p, xs, v, rfl, rfl, k3, by rw [h4.length]; exact hl, ?_⟩
        exact q σ F2 _ (g2.putO e h1 k3 ((h4.mono n.f).append (.cons rv .nil))) (Sub.refl F2)
      · exact q.elim
theorem RpAll.set {K : PySem.W.Frag} {F : Hp} : ∀ {vs : List V} {ds : List D} (n : Nat) {v : V} {d : D}, RpAll K F vs ds → Rp K F v d → RpAll K F (vs.set n v) (ds.set n d)
  | _, _, _, _, _, .nil, _ => .nil
  | _, _, 0, _, _, .cons _ t, r => .cons r t
  | _, _, n + 1, _, _, .cons h t, r => .cons h (RpAll.set n t r)
def sput (i : Nat) (fk fe : Rho → Res D) : Rho → SR := fun ρ => bindS (fe ρ) ρ fun d => bindS (ownR i ρ) ρ fun ds => bindS (fk ρ) ρ fun k => match k with
  | .int j => (match ixN ds.length j with
    | some m => .nx (ρ.set i (.o (.lst (ds.set m d))))
    | none => .bad)
  | _ => .bad
def ixO (i : Nat) (fk : Rho → Res D) : Rho → Res D := fun ρ => (ownR i ρ).bind fun ds => (fk ρ).bind fun k => match k with
  | .int j => ofO (atI ds j)
  | _ => .bad
theorem e_ixO {x : Str} {i : Nat} {k : Expr} {p pos : Pos} {fk : Rho → Res D} (hv : PE X (.Name x p) (tVar i)) (hk : DE X T W k fk) (hs : PlainIx k := by exact fun _ _ => rfl) : DE X T W (.Subscript (.Name x p) k pos) (ixO i fk) :=
  (pe_ix ix_list hv hk hs).to fun σ H Q ⟨ρ, F, a, h⟩ => by
    unfold ixO at h
    cases e : ownR i ρ with
    | bad => rw [e] at h; exact h.elim
    | ex m =>
      exfalso
      unfold ownR at e
      split at e <;> cases e
    | ok ds =>
      rw [e] at h
      have e := ownR_ok e
      obtain ⟨p, xs, h1, h2, h3, h4⟩ := own_at a.r e
      refine ⟨_, h1, ρ, F, a, (aft.bind (R := Rp X.K) h).imp fun d _ w F3 H3 _ _ q => ?_⟩
      obtain ⟨k', F4, _, n2, rw', q⟩ := q
      cases rw' with
      | int j =>
        obtain ⟨z, hz, q⟩ := ofO_ok q
        obtain ⟨v, hv, rv⟩ := atI_get (h4.mono n2.f) hz
        have k3 : H3 p = some (.lst xs) := n2.keep h3 ntL'
        exact ⟨p, xs, j, v, rfl, rfl, SqL.of k3, hv, q v F4 H3 (Nx.refl n2.z) rv⟩
      | _ => exact q.elim
end
end DN
/-! comprehensions with any target; lists made so are own or frozen -/
namespace DN
open PySem PySem.Spec PyProof.Rows L2
open LamX (Tabs ExtN)

theorem At.wipe {K : PySem.W.Frag} {T : List (Addr × Str)} {F H : Hp} {σ : L2.St} {ρ : Rho} (a : At K T F H σ ρ) : ∀ vs : List Nat, At K T F H (L2.wipe σ vs) (wipeR ρ vs)
  | [] => a
  | v :: vs => ⟨a.z, a.t, (At.wipe a vs).r.wipe1⟩
/-! targets that touch the slots vs alone -/
section
variable {X : Cx} {T : List (Addr × Str)} {W : WX} {F0 H0 : Hp} {vs : List Nat}
end
section
variable {X : Cx} {T : List (Addr × Str)} {W : WX} {F0 H0 : Hp}
section
variable {j : Nat} {y : Str} {py : Pos} {elt tg iter : Expr} {ifs : List Expr} {scope : Scope} {own : List (Str × Nat)} {pos spos : Pos} {f : Rho → Res (List D)} {g : Tg} {t : Rho → Res Bool} {e : Rho → Res D}
end
end
end DN
/-! min, max and index of a list of ints; evaluation of own lists -/
namespace DN
open PySem PySem.Spec PyProof.Rows L2
open LamX (Tabs ExtN)

section
variable {X : Cx} {T : List (Addr × Str)} {W : WX} {F0 H0 : Hp}
def metL (G : D → List D → Option D) (f : Rho → Res D) (g : Rho → Res (List D)) : Rho → Res D := fun ρ => (f ρ).bind fun d => match d with
  | .lst x => (g ρ).bind fun ds => ofO (G (.lst x) ds)
  | _ => .bad
theorem e_metL {name : Str} {id : String} {G : D → List D → Option D} {o e : Expr} {es : List Expr} {f : Rho → Res D} {g : Rho → Res (List D)} {apos pos : Pos} (pa : PlainAttrs "list") (slot : Slot "list" name id) (hty : typeOf (.builtin id) = pure (.type "method_descriptor")) (hm : MtR X id (rDm X.K T G)) (ho : DE X T W o f) (ha : DA X T W (e :: es) g)
    (h1 : attributeBase o name X.env (eval o X.env) = eval o X.env := by rfl) (h5 : ((backTo pos (starEach (e :: es) X.env)).all (fun x => !x.1) && (backToKw pos (keywordEach [] X.env)).all (fun x => x.1.isSome) && decide ((e :: es).length + ([] : List Keyword).length + (if ([] : List Keyword).isEmpty then 0 else 1) < 30)) = true := by rfl) (h2 : (apos.endLine == pos.line) = true := by rfl) (h3 : starEach (e :: es) X.env = (false, eval e X.env) :: starEach es X.env := by rfl) (h4 : (backTo pos (starEach es X.env)).any (·.1) = false := by rfl) : DE X T W (.Call (.Attribute o name apos) (e :: es) [] pos) (metL G f g) :=
  (pe_bm pa slot hty hm ho ha h1 h5 h2 h3 h4).to fun σ H Q ⟨ρ, F, a, h⟩ => by
    refine ⟨ρ, F, a, (aft.bind (R := Rp X.K) h).imp fun d _ v F1 H1 _ _ q => ?_⟩
    obtain ⟨b, F2, _, n, rv, q⟩ := q
    cases rv with
    | lst k1 k2 =>
      refine ⟨.inl ⟨rfl, _, SqL.of (n.z.sub _ _ k1)⟩, ρ, F2, a.nx n, (aft.bind (R := RpAll X.K) q).imp fun ds _ vs F3 H3 _ _ q => ?_⟩
      obtain ⟨ds', F4, _, n2, rs, q⟩ := q
      obtain ⟨z, hz, q⟩ := ofO_ok q
      exact ⟨F4, _, ds', z, n2.z, .lst (n2.f _ _ k1) (k2.mono n2.f), rs, hz, q⟩
    | _ => exact q.elim
end
/-! ### evaluation -/
section
variable {ρ : Rho}
def ownRR (r : Res D) (ρ : Rho) (i : Nat) : SR := bindS r ρ fun d => match d with
  | .lst ds => .nx (ρ.set i (.o (.lst ds)))
  | _ => .bad
theorem sown_def {f : Rho → Res D} {i : Nat} : sown f i ρ = ownRR (f ρ) ρ i := rfl
theorem ownRR_ok {ds : List D} {i : Nat} : ownRR (.ok (.lst ds)) ρ i = .nx (ρ.set i (.o (.lst ds))) := rfl
theorem frz_lst {ds : List D} {r : Rho} : frz 0 (.o (.lst ds) :: r) = .z (.lst ds) :: r := rfl
theorem frz_z {d : D} {r : Rho} : frz 0 (.z d :: r) = .z d :: r := rfl
theorem frz_u {r : Rho} : frz 0 (.u :: r) = .u :: r := rfl
theorem frz_succ {i : Nat} {e : En} {r : Rho} : frz (i + 1) (e :: r) = e :: frz i r := by
  unfold frz
  rw [List.getElem?_cons_succ]
  cases r[i]? with
  | none => rfl
  | some en =>
    cases en with
    | u => rfl
    | z d => rfl
    | o d => cases d <;> rfl
theorem sfrz_def {i : Nat} {s : Rho → SR} : sfrz i s ρ = s (frz i ρ) := rfl
theorem bor_def {i : Nat} {f : Rho → Res D} : bor i f ρ = flatR (f (frz i ρ)) := rfl
theorem borQ_def {i : Nat} {f : Rho → Res Bool} : borQ i f ρ = f (frz i ρ) := rfl
theorem flat_i {i : Int} : flatR (.ok (.int i)) = .ok (.int i) := rfl
theorem flat_s {x : Str} : flatR (.ok (.str x)) = .ok (.str x) := rfl
theorem flat_b {b : Bool} : flatR (.ok (.bl b)) = .ok (.bl b) := rfl
theorem flat_n : flatR (.ok .non) = .ok .non := rfl
theorem own_zero {ds : List D} {r : Rho} : ownR 0 (.o (.lst ds) :: r) = .ok ds := rfl
theorem own_succ {i : Nat} {e : En} {r : Rho} : ownR (i + 1) (e :: r) = ownR i r := rfl
def appRR (ds : Res (List D)) (r : Res D) (ρ : Rho) (i : Nat) : SR := bindS ds ρ fun ds => bindS r ρ fun d => if ds.length < sizeLine then .nx (ρ.set i (.o (.lst (ds ++ [d])))) else .bad
theorem sapp_def {i : Nat} {f : Rho → Res D} : sapp i f ρ = appRR (ownR i ρ) (f ρ) ρ i := rfl
theorem appRR_ok {ds : List D} {d : D} {i : Nat} (h : ds.length < 1000000) : appRR (.ok ds) (.ok d) ρ i = .nx (ρ.set i (.o (.lst (ds ++ [d])))) := by
  show (if ds.length < sizeLine then _ else _) = _
  rw [if_pos (by rw [sizeLine_eq]; omega)]
def putRR (v : Res D) (ds : Res (List D)) (k : Res D) (ρ : Rho) (i : Nat) : SR := bindS v ρ fun d => bindS ds ρ fun ds => bindS k ρ fun k => match k with
  | .int j => (match ixN ds.length j with
    | some m => .nx (ρ.set i (.o (.lst (ds.set m d))))
    | none => .bad)
  | _ => .bad
theorem sput_def {i : Nat} {f g : Rho → Res D} : sput i f g ρ = putRR (g ρ) (ownR i ρ) (f ρ) ρ i := rfl
def ixRR (ds : Res (List D)) (k : Res D) : Res D := ds.bind fun ds => k.bind fun k => match k with
  | .int j => ofO (atI ds j)
  | _ => .bad
theorem ixO_def {i : Nat} {f : Rho → Res D} : ixO i f ρ = ixRR (ownR i ρ) (f ρ) := rfl
end
end DN
/-! list(x) as an own list -/
namespace DN
open PySem PySem.Spec PyProof.Rows L2
open LamX (Tabs ExtN)
section
variable {X : Cx} {T : List (Addr × Str)} {W : WX}
end
end DN
/-! sorted of a list of texts -/
namespace DN
open PySem PySem.Spec PyProof.Rows L2
open LamX (Tabs ExtN)
def strsOf : List D → Option (List Str)
  | [] => some []
  | .str x :: r => (strsOf r).map (x :: ·)
  | _ => none
theorem strsOf_map : ∀ (l : List Str), strsOf (l.map D.str) = some l
  | [] => rfl
  | x :: r => by
    show (strsOf (r.map D.str)).map (x :: ·) = _
    rw [strsOf_map r]
    rfl
theorem rp_strsOf {K : PySem.W.Frag} {F : Hp} : ∀ {ds : List D} {xs : List V} {ys : List Str}, RpAll K F xs ds → strsOf ds = some ys → xs = ys.map V.str
  | [], _, _, .nil, h => by cases h; rfl
  | .str x :: r, _, _, .cons h t, e => by
    have e : (strsOf r).map (x :: ·) = some _ := e
    cases q : strsOf r with
    | none => rw [q] at e; cases e
    | some z =>
      rw [q] at e
      cases e
      cases h
      rw [rp_strsOf t q]
      rfl
  | .non :: _, _, _, .cons h t, e => by cases e
  | .bl _ :: _, _, _, .cons h t, e => by cases e
  | .int _ :: _, _, _, .cons h t, e => by cases e
  | .lst _ :: _, _, _, .cons h t, e => by cases e
  | .tup _ :: _, _, _, .cons h t, e => by cases e
  | .fn _ :: _, _, _, .cons h t, e => by cases e
  | .ty _ :: _, _, _, .cons h t, e => by cases e
  | .dK _ :: _, _, _, .cons h t, e => by cases e
  | .dT _ :: _, _, _, .cons h t, e => by cases e
  | .arr _ :: _, _, _, .cons h t, e => by cases e
  | .pro _ :: _, _, _, .cons h t, e => by cases e
  | .dic _ _ _ _ :: _, _, _, .cons h t, e => by cases e
  | .adr _ :: _, _, _, .cons h t, e => by cases e
  | .ins _ _ _ :: _, _, _, .cons h t, e => by cases e
  | .tab _ _ _ :: _, _, _, .cons h t, e => by cases e
section
variable {X : Cx} {T : List (Addr × Str)} {W : WX}
end
end DN
/-! tuples of texts whose object is known: tuple(list), len, [], in, index, + -/
namespace DN
open PySem PySem.Spec PyProof.Rows L2
open LamX (Tabs ExtN)
def firstIx (z : Str) : List Str → Option Nat
  | [] => none
  | y :: r => if y = z then some 0 else (firstIx z r).map (· + 1)
theorem firstIx_some {z : Str} : ∀ {ys : List Str} {j : Nat}, firstIx z ys = some j → ys[j]? = some z ∧ ∀ m, m < j → ys[m]? ≠ some z
  | [], _, h => by cases h
  | y :: r, j, h => by
    have h : (if y = z then some 0 else (firstIx z r).map (· + 1)) = some j := h
    by_cases q : y = z
    · rw [if_pos q] at h
      cases h
      exact ⟨by rw [q]; rfl, fun m hm => by omega⟩
    · rw [if_neg q] at h
      cases e : firstIx z r with
      | none => rw [e] at h; cases h
      | some k =>
        rw [e] at h
        cases h
        obtain ⟨h1, h2⟩ := firstIx_some e
        refine ⟨by simpa using h1, fun m hm => ?_⟩
        cases m with
        | zero => simpa using q
        | succ m => simpa using h2 m (Nat.lt_of_succ_lt_succ hm)
def tupP : List D → Option D
  | [.lst ds] => (strsOf ds).map .pro
  | _ => none
def lenP : List D → Option D
  | [.pro xs] => some (.int xs.length)
  | _ => none
def ixP : D → D → Option D
  | .pro xs, .int i => (atI xs i).map .str
  | _, _ => none
def niP : D → D → Option D
  | .str x, .pro xs => some (.bl (!decide (x ∈ xs)))
  | _, _ => none
def indexP : D → List D → Option D
  | .pro xs, [.str z] => (firstIx z xs).map fun j => .int (j : Nat)
  | _, _ => none
section
variable {X : Cx} {T : List (Addr × Str)} {W : WX}
theorem ntF {o : Obj} {u : HO} : ∀ ps, HO.frz o u ≠ .tbl ps := fun ps z => by cases z
theorem c_tupP : CallR X (.type "tuple") (rDn X.K T tupP) := by
  intro pins s σ H xs us Q I r h
  obtain ⟨F, ds, z, hz, rs, hG, q⟩ := h
  unfold tupP at hG
  split at hG
  · rename_i ds
    obtain ⟨v, rfl, rv⟩ := all1 rs
    cases rv with
    | lst h1 r1 =>
      rename_i p ys
      cases e : strsOf ds with
      | none => rw [e] at hG; cases hG
      | some zs =>
        rw [e] at hG
        cases hG
        have ev := rp_strsOf r1 e
        subst ev
        obtain ⟨u, rfl, rx⟩ := vals1 r
        cases rx
        obtain ⟨its, r', pl, hzz⟩ := I.list (SqL.of (hz.sub _ _ h1))
        have hlen := r'.length
        refine call_tuple_list pl.isList (fun h' kp => ?_) (by simp only [List.size_toArray] <;> omega)
        have I1 : Inv X pins σ H { s with heap := h' } := I.kept (t' := s.toks) kp
        have I2 : Inv X pins σ (upd H h'.objs.size (.frz { cls := .type "tuple", data := .seq its.toArray } (.tup (zs.map V.str)))) { s with heap := h'.push { cls := .type "tuple", data := .seq its.toArray } } :=
          I1.laid (t' := s.toks) (fun b o e => Heap.get?_push_of_some _ e) (Nat.le_refl _) (show ObjOk X.prog X.w _ _ _ (.frz _ (.tup (zs.map V.str))) from ⟨Heap.get?_push_size _ rfl, hzz, its, r', IsTup.new _ _⟩)
        have hf := I1.hok.fresh (Nat.le_refl h'.objs.size)
        exact ⟨.ref h'.objs.size, _, I2, rfl, q _ _ _ (Nx.push hz hf ntF) (.pro ⟨_, rfl, rfl, upd_same⟩)⟩
  · cases hG
theorem sq_pro {K : PySem.W.Frag} {F H : Hp} {a : Addr} {xs : List Str} (hz : Fz F H) (h : ∃ o : Obj, o.cls = .type "tuple" ∧ o.dict = none ∧ F a = some (.frz o (.tup (xs.map V.str)))) : SqT K H a (xs.map V.str) := by
  obtain ⟨o, _, _, h⟩ := h
  exact .inl (.inr ⟨o, hz.sub _ _ h⟩)
theorem c_lenP : CallR X (.builtin "len") (rDn X.K T lenP) := by
  intro pins s σ H xs us Q I r h
  obtain ⟨F, ds, z, hz, rs, hG, q⟩ := h
  unfold lenP at hG
  split at hG
  · obtain ⟨v, rfl, rv⟩ := all1 rs
    cases hG
    cases rv with
    | pro h1 => exact call_len_seq pins s σ H _ us Q I r ⟨_, _, rfl, .inr (sq_pro hz h1), by rw [List.length_map]; exact done0 hz q (.int _)⟩
  · cases hG
theorem atI_str {ns : List Str} {i : Int} {z : D} (h : (atI ns i).map D.str = some z) : ∃ n, atI (ns.map V.str) i = some (.str n) ∧ z = .str n := by
  unfold atI at *
  rw [List.length_map]
  cases e : ixN ns.length i with
  | none => rw [e] at h; cases h
  | some k =>
    rw [e] at h
    simp only [Option.bind_some] at h ⊢
    cases e2 : ns[k]? with
    | none => rw [e2] at h; cases h
    | some n =>
      rw [e2] at h
      cases h
      exact ⟨n, by rw [List.getElem?_map, e2]; rfl, rfl⟩
theorem x_ixP : IxR X (rD2 X.K T ixP) := by
  intro value slice pins s σ H x y v u Q I rx ry h hs
  obtain ⟨F, d, e, z, hz, rd, re, hG, q⟩ := h
  unfold ixP at hG
  split at hG
  · rename_i xs i
    cases rd with
    | pro h1 =>
      cases re
      obtain ⟨n, hn, rfl⟩ := atI_str hG
      exact ix_tup value slice pins s σ H _ _ v u Q I rx ry ⟨_, _, i, .str n, rfl, rfl, sq_pro hz h1, hn, done0 hz q (.str _)⟩ hs
  · cases hG
theorem e_ixP {a b : Expr} {f g : Rho → Res D} {pos : Pos} (ha : DE X T W a f) (hb : DE X T W b g) (hs : PlainIx b := by exact fun _ _ => rfl) : DE X T W (.Subscript a b pos) (bop ixP f g) :=
  (pe_ix x_ixP ha hb hs).to fun _ _ _ h => bin_to h
theorem inV_strs {x : Str} : ∀ (xs : List Str), inV (.str x) (xs.map V.str) = decide (x ∈ xs)
  | [] => rfl
  | y :: r => by
    show (eqV (.str y) (.str x) || inV (.str x) (r.map V.str)) = _
    rw [inV_strs r]
    have e : eqV (.str y) (.str x) = decide (x = y) := by
      show (y == x) = _
      rw [Bool.eq_iff_iff, beq_iff_eq, decide_eq_true_eq]
      exact eq_comm
    rw [e]
    simp [List.mem_cons]
theorem o_niP : OpR X (compareOp .NotIn) (rD2 X.K T niP) := by
  intro pins s σ H x y v u Q I rx ry h
  obtain ⟨F, d, e, z, hz, rd, re, hG, q⟩ := h
  unfold niP at hG
  split at hG
  · cases hG
    cases rd
    cases re with
    | pro h1 =>
      refine op_notIn_seq pins s σ H _ _ v u Q I rx ry ⟨_, _, rfl, .inr (sq_pro hz h1), rfl, flat_strs _, ?_⟩
      show Q (.bl (!inV _ _)) H
      rw [inV_strs]
      exact done0 hz q (.bl _)
  · cases hG
/-! t.index(x), t a tuple whose object is known: one argument, by the kit's wpAny_Call_method1_late -/
def tBMk (r : V → List V → Hp → VK → Prop) (to : TE) (t : TA) : TE := fun σ H Q => to σ H fun x H1 => (∃ p o u, x = .ref p ∧ o.cls = .type "tuple" ∧ o.dict = none ∧ H1 p = some (.frz o u)) ∧ t σ H1 fun xs H2 => r x xs H2 Q
variable {o e : Expr} {to : TE} {t : TA} {apos cpos : Pos}
theorem pe_index1 {r : V → List V → Hp → VK → Prop} (hm : MtR X "tuple.index" r) (ho : PE X o to) (ha : PA X [e] t) (hb : attributeBase o "index" X.env (eval o X.env) = eval o X.env) (hl : (apos.endLine == cpos.line) = true)
    (hk : backTo cpos (starEach [e] X.env) = [(false, eval e X.env)]) : PE X (.Call (.Attribute o "index" apos) [e] [] cpos) (tBMk r to t) where
  run pins s σ H Q I h := by
    refine wpAny_Call_method1_late hb hl hk (wpAny_mono (ho.run pins s σ H _ I h) (fun v s1 q => ?_) fun _ _ z => z)
    obtain ⟨_, H1, J, rv, ⟨p, ob, u, rfl, c, d, k⟩, q⟩ := q
    have rv' := rv
    cases rv
    have got := (J.hok p _ k).1
    have args := ha.run cpos pins s1 σ H1 _ J q
    rw [hk] at args
    exact ⟨"tuple", _, PySem.F.plainAttrs_tuple, PySem.F.slot_tuple_index, PySem.F.type_tuple_index, ⟨ob, got, c⟩, fun _ z => Value.ref.inj z ▸ ⟨ob, got, d⟩,
      Calls.callWith_builtin rfl (Calls.evalArgs_plain (wpAny_mono args (fun us s2 ⟨vs, H2, J2, rs, q⟩ => hm pins s2 σ H2 _ vs _ us Q J2 rv' rs q) fun _ _ z => z))⟩
def metP (f : Rho → Res D) (g : Rho → Res (List D)) : Rho → Res D := fun ρ => (f ρ).bind fun d => match d with
  | .pro x => (g ρ).bind fun ds => ofO (indexP (.pro x) ds)
  | _ => .bad
theorem m_indexP : MtR X "tuple.index" (rDm X.K T indexP) := by
  intro pins s σ H x xs v us Q I rx rs h
  obtain ⟨F, d, ds, z, hz, rd, rds, hG, q⟩ := h
  unfold indexP at hG
  split at hG
  · rename_i ys y
    obtain ⟨v1, rfl, r1⟩ := all1 rds
    cases r1
    cases rd with
    | pro h1 =>
      cases e : firstIx y ys with
      | none => rw [e] at hG; cases hG
      | some j =>
        rw [e] at hG
        cases hG
        obtain ⟨k1, k2⟩ := firstIx_some e
        exact mt_tup_index pins s σ H _ _ v us Q I rx rs ⟨_, ys, y, j, rfl, rfl, sq_pro hz h1, k1, k2, done0 hz q (.int _)⟩
  · cases hG
theorem e_indexP {f : Rho → Res D} {g : Rho → Res (List D)} {pos : Pos} (ho : DE X T W o f) (ha : DA X T W [e] g) (h1 : attributeBase o "index" X.env (eval o X.env) = eval o X.env := by rfl)
    (h2 : (apos.endLine == pos.line) = true := by rfl) (h3 : backTo pos (starEach [e] X.env) = [(false, eval e X.env)] := by rfl) : DE X T W (.Call (.Attribute o "index" apos) [e] [] pos) (metP f g) :=
  (pe_index1 (m_indexP (T := T)) ho ha h1 h2 h3).to fun σ H Q ⟨ρ, F, a, h⟩ => by
    refine ⟨ρ, F, a, (aft.bind (R := Rp X.K) h).imp fun d _ v F1 H1 _ _ q => ?_⟩
    obtain ⟨b, F2, _, n, rv, q⟩ := q
    cases rv with
    | pro k =>
      obtain ⟨ob, k1, k2, k3⟩ := k
      refine ⟨⟨_, ob, _, rfl, k1, k2, n.z.sub _ _ k3⟩, ρ, F2, a.nx n, (aft.bind (R := RpAll X.K) q).imp fun ds _ vs F3 H3 _ _ q => ?_⟩
      obtain ⟨ds', F4, _, n2, rs, q⟩ := q
      obtain ⟨z, hz, q⟩ := ofO_ok q
      exact ⟨F4, _, ds', z, n2.z, .pro ⟨ob, k1, k2, n2.f _ _ k3⟩, rs, hz, q⟩
    | _ => exact q.elim
end
end DN
/-! str.replace: rules where a token is out -/
namespace DN
open PySem PySem.Spec PyProof.Rows L2
open LamX (Tabs ExtN)
section
variable {X : Cx} {T : List (Addr × Str)} {W : WX} {F0 H0 : Hp}
end
end DN
/-! zip of two lists, of two tuples -/
namespace DN
open PySem PySem.Spec PyProof.Rows L2
open LamX (Tabs ExtN)
open RZ (ItzT iZipA pi_zipA)
section
variable {X : Cx} {T : List (Addr × Str)} {W : WX}
end
end DN
/-! x.replace(y, z, 1); statements behind which a token is out -/
namespace PySem
open Builtin Builtin.Str
section
variable {prog : Program} {w : World} {A : Around} {E : Value → Shared → Prop} {s : Shared} {x y z : Str} {t u v c : Tok} {Q : Value → Shared → Prop}
end
end PySem
namespace DN
open PySem PySem.Spec PyProof.Rows L2
open LamX (Tabs ExtN)
section
variable {X : Cx} {T : List (Addr × Str)} {W : WX} {F0 H0 : Hp}
end
end DN
/-! DN25: repr of nested tuples; a law whose body is read under the outermost call alone (no repr is under way there). -/
namespace DN
open PySem PySem.Spec PyProof.Rows L2
open LamX (Tabs ExtN TabB)

section
variable {X : Cx} {T : List (Addr × Str)}
end
/-! ### a law's def, read under the outermost call -/
/-! the heap at the law's entry: the script (if the head doesn't hold it) and the empty tables are tracked -/
section
variable {K : PySem.W.Frag} {cs : List (Addr × Addr)} {a b : Addr} {o : Obj} {ns : List Int} {h : Heap} {u : HO}
end
section
variable {l : PySem.W.OpenLaw} {w : World} {K : PySem.W.Frag} {n : Nat} {x : Str} {mg mb : Str → Option Value} {fa a : Addr} {fd : FuncData} {cs : List (Addr × Addr)} {sp : Sp} {s s' : Shared} {vs : List Value} {ns : List Int} {o : Obj}
end
end DN
/-! dicts of the frame's own whose keys are nested tuples -/
namespace DN
open PySem PySem.Spec PyProof.Rows L2
open LamX (Tabs ExtN)

section
variable {X : Cx} {pins : List (Addr × Obj)} {σ : L2.St} {F H : Hp} {s : Shared}
mutual
theorem key_is (I : Inv X pins σ H s) (e : Sub F H) : ∀ {v : V} {d : D} {n : NestedKey} {u : Value}, Rp X.K F v d → D.key d = some n → RelV v u → NestedIs s.heap n u
  | _, _, _, _, .non, h, r => by simp only [D.key] at h; cases h; cases r; exact .none
  | _, _, _, _, .bl b, h, r => by simp only [D.key] at h; cases h; cases r; exact .bool rfl
  | _, _, _, _, .int i, h, r => by simp only [D.key] at h; cases h; obtain ⟨t, rfl⟩ := r; exact .int i t
  | _, _, _, _, .str x, h, r => by simp only [D.key] at h; cases h; obtain ⟨t, rfl⟩ := r; exact .text x t
  | _, _, _, _, .tup h1 t1, h, r => by
    simp only [D.key] at h
    obtain ⟨ns, hn, rfl⟩ := Option.map_eq_some_iff.mp h
    obtain ⟨its, rv, ⟨o, ho, hc, m, hd⟩, _⟩ := I.tuple (e.st h1)
    cases r
    exact .tup ho hc hd (by simpa using keys_is I e t1 hn rv)
  | _, _, _, _, .fn _, h, _ => by simp [D.key] at h
  | _, _, _, _, .ty _, h, _ => by simp [D.key] at h
  | _, _, _, _, .lst _ _, h, _ => by simp [D.key] at h
  | _, _, _, _, .dK _, h, _ => by simp [D.key] at h
  | _, _, _, _, .dT _, h, _ => by simp [D.key] at h
  | _, _, _, _, .arr _, h, _ => by simp [D.key] at h
  | _, _, _, _, .pro _, h, _ => by simp [D.key] at h
  | _, _, _, _, .adr _, h, _ => by simp [D.key] at h
  | _, _, _, _, .pw _, h, _ => by simp [D.key] at h
  | _, _, _, _, .frm _ _, h, _ => by simp [D.key] at h
  | _, _, _, _, .tab _ _ _ _, h, _ => by simp [D.key] at h
theorem keys_is (I : Inv X pins σ H s) (e : Sub F H) : ∀ {vs : List V} {ds : List D} {ns : List NestedKey} {us : List Value}, RpAll X.K F vs ds → D.keys ds = some ns → Vals vs us → NestedAll s.heap ns us
  | _, _, _, _, .nil, h, r => by simp only [D.keys] at h; cases h; cases r; exact .nil
  | _, _, _, _, .cons h1 t1, h, r => by
    simp only [D.keys] at h
    obtain ⟨k, hk, h⟩ := Option.bind_eq_some_iff.mp h
    obtain ⟨ks, hks, rfl⟩ := Option.map_eq_some_iff.mp h
    cases r with
    | cons r1 r2 => exact .cons (key_is I e h1 hk r1) (keys_is I e t1 hks r2)
end
theorem dic_of {p : Addr} {es : List (NestedKey × Addr × V)} {ks vs : List D} (I : Inv X pins σ H s) (e : Sub F H) (h : H p = some (DicO X.prog X.w p es)) (r : DicR X.K F es ks vs) :
    (p == sysModules) = false ∧ es.length ≤ sizeLine ∧ ∃ xs, Paired EntR es xs ∧ s.heap.DictOfH (nestedKind X.prog X.w) p xs := by
  have hk := I.hok p _ h
  unfold DicO at hk
  obtain ⟨⟨h1, h2, xs, h3, o, ents, ep, k1, k2, k3, k4, k5⟩, _, _⟩ := hk
  refine ⟨h1, h2, xs, h3, o, ents, ep, k1, k2, k3, k4, ?_, k5⟩
  have all : ∀ {es : List (NestedKey × Addr × V)} {ks vs : List D}, DicR X.K F es ks vs → ∀ {xs : List (NestedKey × Addr × Value)}, Paired EntR es xs → ∀ x ∈ xs, (nestedKind X.prog X.w).is s.heap x.1 x.2.1 := by
    intro es ks vs r
    induction r with
    | nil => intro xs q; cases q; intro x hx; cases hx
    | cons a b c d _ ih =>
      intro xs q
      cases q with
      | cons hq t =>
        intro x hx
        rcases List.mem_cons.mp hx with rfl | hx
        · obtain ⟨e1, e2, _⟩ := hq
          simp only at e1 e2
          rw [← e1, ← e2]
          exact ⟨key_is I e c a rfl, b⟩
        · exact ih t x hx
  exact all r h3
theorem dicO_ok {P : Program} {w : World} {H : Hp} {h : Heap} {a : Addr} {es : List (NestedKey × Addr × V)} {xs : List (NestedKey × Addr × Value)} (h1 : (a == sysModules) = false) (h2 : es.length ≤ sizeLine) (h3 : Paired EntR es xs) (dd : h.DictOfH (nestedKind P w) a xs) : ObjOk P w H h a (DicO P w a es) := by
  obtain ⟨o, ents, ep, k1, k2, k3, k4, _, k5⟩ := dd
  refine ⟨⟨h1, h2, xs, h3, o, ents, ep, k1, k2, k3, k4, k5⟩, ⟨o, k1⟩, fun g1 g2 ⟨a1, a2, xs, a3, o, ents, ep, b1, b2⟩ st => ⟨a1, a2, xs, a3, o, ents, ep, st o b1, b2⟩⟩
end
/-! ### looked up, stored -/
def dfind : List D → List D → NestedKey → Option D
  | k :: ks, v :: vs, n => if k.key = some n then some v else dfind ks vs n
  | _, _, _ => none
def dputV : List D → List D → NestedKey → D → List D
  | k :: ks, v :: vs, n, d => (if k.key = some n then d else v) :: dputV ks vs n d
  | _, vs, _, _ => vs
def dput (ks vs : List D) (n : NestedKey) (k d : D) : List D × List D := if (dfind ks vs n).isSome = true then (ks, dputV ks vs n d) else (ks ++ [k], vs ++ [d])
section
variable {K : PySem.W.Frag} {F : Hp} {es : List (NestedKey × Addr × V)} {ks vs : List D} {xs : List (NestedKey × Addr × Value)} {n : NestedKey}
theorem atKey_cons (k : NestedKey) (a : Addr) (v : Value) (xs : List (NestedKey × Addr × Value)) (n : NestedKey) : atKey ((k, a, v) :: xs) n = if k = n then some (a, v) else atKey xs n := by
  unfold atKey
  rw [List.find?_cons]
  by_cases h : k = n
  · simp [h]
  · simp [h]
theorem dfind_at (r : DicR K F es ks vs) : ∀ {xs : List (NestedKey × Addr × Value)}, Paired EntR es xs → (∀ d, dfind ks vs n = some d → ∃ a u v, atKey xs n = some (a, u) ∧ RelV v u ∧ Rp K F v d) ∧ (dfind ks vs n = none → atKey xs n = none) := by
  induction r with
  | nil => intro xs q; cases q; exact ⟨fun d h => (by cases h), fun _ => rfl⟩
  | @cons n' a v es k d ks vs h1 h2 h3 h4 _ ih =>
    intro xs q
    cases q with
    | @cons _ y _ ys hq t =>
      obtain ⟨y1, y2, y3⟩ := y
      obtain ⟨e1, e2, e3⟩ := hq
      simp only at e1 e2 e3
      subst e1 e2
      obtain ⟨i1, i2⟩ := ih t
      by_cases hn : n' = n
      · subst hn
        refine ⟨fun d' h => ?_, fun h => ?_⟩
        · simp only [dfind, h1, if_true] at h
          cases h
          exact ⟨a, y3, v, by rw [atKey_cons, if_pos rfl], e3, h4⟩
        · simp [dfind, h1] at h
      · have hk : ¬ (k.key = some n) := fun z => hn (by rw [h1] at z; exact Option.some.inj z)
        refine ⟨fun d' h => ?_, fun h => ?_⟩
        · simp only [dfind, hk, if_false] at h
          obtain ⟨a', u, v', j1, j2, j3⟩ := i1 d' h
          exact ⟨a', u, v', by rw [atKey_cons, if_neg hn]; exact j1, j2, j3⟩
        · simp only [dfind, hk, if_false] at h
          rw [atKey_cons, if_neg hn]
          exact i2 h
theorem dfind_isSome (r : DicR K F es ks vs) (q : Paired EntR es xs) : (atKey xs n).isSome = (dfind ks vs n).isSome := by
  obtain ⟨h1, h2⟩ := dfind_at (n := n) r q
  cases e : dfind ks vs n with
  | none => rw [h2 e]; rfl
  | some d =>
    obtain ⟨a, u, v, j, _⟩ := h1 d e
    rw [j]; rfl
def putE (n : NestedKey) (v : V) (e : NestedKey × Addr × V) : NestedKey × Addr × V := if e.1 = n then (e.1, e.2.1, v) else e
theorem put_old {v : V} {u : Value} {d : D} (rl : RelV v u) (rv : Rp K F v d) (r : DicR K F es ks vs) : ∀ {xs : List (NestedKey × Addr × Value)}, Paired EntR es xs → DicR K F (es.map (putE n v)) ks (dputV ks vs n d) ∧ Paired EntR (es.map (putE n v)) (xs.map (putAt n u)) := by
  induction r with
  | nil => intro xs q; cases q; exact ⟨.nil, .nil⟩
  | @cons n' a v' es k d' ks vs h1 h2 h3 h4 _ ih =>
    intro xs q
    cases q with
    | @cons _ y _ ys hq t =>
      obtain ⟨y1, y2, y3⟩ := y
      obtain ⟨e1, e2, e3⟩ := hq
      simp only at e1 e2 e3
      subst e1 e2
      obtain ⟨i1, i2⟩ := ih t
      by_cases hn : n' = n
      · subst hn
        refine ⟨?_, ?_⟩
        · simp only [List.map_cons, putE, if_true, dputV, h1]
          exact .cons h1 h2 h3 rv i1
        · simp only [List.map_cons, putE, putAt, if_true]
          exact .cons ⟨rfl, rfl, rl⟩ i2
      · have hk : ¬ (k.key = some n) := fun z => hn (by rw [h1] at z; exact Option.some.inj z)
        refine ⟨?_, ?_⟩
        · simp only [List.map_cons, putE, hn, if_false, dputV, hk]
          exact .cons h1 h2 h3 h4 i1
        · simp only [List.map_cons, putE, putAt, hn, if_false]
          exact .cons ⟨rfl, rfl, e3⟩ i2
theorem put_new {v : V} {d k : D} {b : Addr} (h1 : k.key = some n) (h2 : n.depth ≤ 8) (h3 : Rp K F (.ref b) k) (rv : Rp K F v d) (r : DicR K F es ks vs) : DicR K F (es ++ [(n, b, v)]) (ks ++ [k]) (vs ++ [d]) := by
  induction r with
  | nil => exact .cons h1 h2 h3 rv .nil
  | cons a1 a2 a3 a4 _ ih => exact .cons a1 a2 a3 a4 ih
theorem put_dic {v : V} {u : Value} {d k : D} {b : Addr} (h1 : k.key = some n) (h2 : n.depth ≤ 8) (h3 : Rp K F (.ref b) k) (rl : RelV v u) (rv : Rp K F v d) (r : DicR K F es ks vs) (q : Paired EntR es xs) :
    ∃ es', DicR K F es' (dput ks vs n k d).1 (dput ks vs n k d).2 ∧ Paired EntR es' (storedH xs n b u) ∧ es'.length ≤ es.length + 1 := by
  have e := dfind_isSome (n := n) r q
  unfold dput storedH
  rw [e]
  by_cases c : (dfind ks vs n).isSome = true
  · rw [if_pos c, if_pos c]
    obtain ⟨j1, j2⟩ := put_old (n := n) rl rv r q
    exact ⟨_, j1, j2, by rw [List.length_map]; omega⟩
  · rw [if_neg c, if_neg c]
    exact ⟨_, put_new h1 h2 h3 rv r, Paired.snoc q ⟨rfl, rfl, rl⟩, by rw [List.length_append]; simp⟩
end
/-! ### the operations, by the heap -/
section
variable {X : Cx}
def rInN (X : Cx) : R2 := fun x y H Q => ∃ F p b es ks vs k n, x = .ref b ∧ y = .ref p ∧ Sub F H ∧ H p = some (DicO X.prog X.w p es) ∧ DicR X.K F es ks vs ∧ Rp X.K F (.ref b) k ∧ k.key = some n ∧ n.depth ≤ 8 ∧ Q (.bl (dfind ks vs n).isSome) H
theorem room8 (hu : X.A.units + 64 < cLine) : (nestedKind X.prog X.w).room X.A.in1 := by
  show X.A.in1.units + 8 < cLine
  rw [Around.in1_units]; omega
theorem op_inN (hu : X.A.units + 64 < cLine) : OpR X (compareOp .In) (rInN X) := by
  intro pins s σ H x y v u Q I rx ry h
  obtain ⟨F, p, b, es, ks, vs, k, n, rfl, rfl, sb, hp, r, rk, hk, hd, q⟩ := h
  cases rx; cases ry
  obtain ⟨h1, h2, xs, h3, dd⟩ := dic_of I sb hp r
  refine wpAny_in_heap (room8 hu) ⟨key_is I sb rk hk rfl, hd⟩ h1 dd ?_
  rw [dfind_isSome r h3]
  exact ⟨.bl _, H, I.tok _, rfl, q⟩
def rIxN (X : Cx) : R2 := fun x y H Q => ∃ F p b es ks vs k n d, x = .ref p ∧ y = .ref b ∧ Sub F H ∧ H p = some (DicO X.prog X.w p es) ∧ DicR X.K F es ks vs ∧ Rp X.K F (.ref b) k ∧ k.key = some n ∧ n.depth ≤ 8 ∧ dfind ks vs n = some d ∧ ∀ v, Rp X.K F v d → Q v H
theorem get_N {pins : List (Addr × Obj)} {σ : L2.St} {F H : Hp} {s : Shared} {p b : Addr} {es : List (NestedKey × Addr × V)} {ks vs : List D} {k d : D} {n : NestedKey} {Q : VK} (hu : X.A.units + 64 < cLine) (I : Inv X pins σ H s) (sb : Sub F H) (hp : H p = some (DicO X.prog X.w p es)) (r : DicR X.K F es ks vs)
    (rk : Rp X.K F (.ref b) k) (hk : k.key = some n) (hd : n.depth ≤ 8) (hf : dfind ks vs n = some d) (q : ∀ v, Rp X.K F v d → Q v H) : wpAny (model X.prog X.w) X.A (getItem (.ref p) (.ref b)) (EP X pins σ Q) X.xe s := by
  obtain ⟨h1, h2, xs, h3, dd⟩ := dic_of I sb hp r
  obtain ⟨a, u, v, j1, j2, j3⟩ := (dfind_at r h3).1 d hf
  exact wpAny_getItem_heap (room8 hu) ⟨key_is I sb rk hk rfl, hd⟩ dd j1 ⟨v, H, I.tok _, j2, q v j3⟩
def rSetN (X : Cx) : V → V → V → Hp → (Hp → Prop) → Prop := fun o i v H Q => ∃ F p b es ks vs k n d, o = .ref p ∧ i = .ref b ∧ Sub F H ∧ H p = some (DicO X.prog X.w p es) ∧ DicR X.K F es ks vs ∧ Rp X.K F (.ref b) k ∧ k.key = some n ∧ n.depth ≤ 8 ∧ Rp X.K F v d ∧ ks.length < sizeLine ∧
  ∀ es', DicR X.K F es' (dput ks vs n k d).1 (dput ks vs n k d).2 → Q (upd H p (DicO X.prog X.w p es'))
theorem DicR.length {K : PySem.W.Frag} {F : Hp} {es : List (NestedKey × Addr × V)} {ks vs : List D} (r : DicR K F es ks vs) : es.length = ks.length := by
  induction r with
  | nil => rfl
  | cons _ _ _ _ _ ih => rw [List.length_cons, List.length_cons, ih]
theorem set_N (hu : X.A.units + 64 < cLine) : PSet X (rSetN X) := by
  intro pins s σ H o i v ov iv u Q I ro ri rv h
  obtain ⟨F, p, b, es, ks, vs, k, n, d, rfl, rfl, sb, hp, r, rk, hk, hd, rd, hl, q⟩ := h
  cases ro; cases ri
  obtain ⟨h1, h2, xs, h3, dd⟩ := dic_of I sb hp r
  have hz : xs.length ≤ sizeLine := by rw [← Paired.length h3]; exact h2
  refine wpAny_setItem_heap (hsz := hz) (room8 hu) ⟨key_is I sb rk hk rfl, hd⟩ dd fun h' dd' hs => ?_
  obtain ⟨es', j1, j2, j3⟩ := put_dic hk hd rk rv rd r h3
  refine ⟨_, d_write I (by rw [hp]; exact True.intro) hs (let ⟨q, _, _, hq, _⟩ := dd'; ⟨q, hq⟩) (dicO_ok h1 ?_ j2 dd'), q es' j1⟩
  have := r.length
  omega
theorem ix_N (hu : X.A.units + 64 < cLine) : IxR X (rIxN X) := by
  intro value slice pins s σ H x y v u Q I rx ry h hs
  obtain ⟨F, p, b, es, ks, vs, k, n, d, rfl, rfl, sb, hp, r, rk, hk, hd, hf, q⟩ := h
  cases rx; cases ry
  obtain ⟨h1, h2, xs, h3, dd⟩ := dic_of I sb hp r
  exact tail_any dd.typeIs PySem.F.slot_dict_getitem.lookup (get_N hu I sb hp r rk hk hd hf q) hs
/-- {k: v}; the new dict stands empty while the pair is made -/
def tDispN (X : Cx) (tk tv : TE) : TE := fun σ H Q => ∀ p, H p = none → tk σ (upd H p (DicO X.prog X.w p [])) fun x H1 => tv σ H1 fun y H2 => ∃ F b k n, x = .ref b ∧ H2 p = some (DicO X.prog X.w p []) ∧ Sub F H2 ∧ Rp X.K F (.ref b) k ∧ k.key = some n ∧ n.depth ≤ 8 ∧
  Q (.ref p) (upd H2 p (DicO X.prog X.w p [(n, b, y)]))
theorem pe_dispN {k v : Expr} {tk tv : TE} {pos : Pos} (hu : X.A.units + 64 < cLine) (hk : PE X k tk) (hv : PE X v tv) : PE X (.Dict [some k] [v] pos) (tDispN X tk tv) := by
  refine ⟨fun pins s σ H Q I q => ?_⟩
  have hn := I.hok.fresh (Nat.le_refl s.heap.objs.size)
  have hb : (s.heap.objs.size == sysModules) = false := beq_eq_false_iff_ne.mpr (Ne.symm (Nat.ne_of_lt I.big))
  have d0 : (s.heap.push { cls := .type "dict", data := .dict #[] }).DictOfH (nestedKind X.prog X.w) s.heap.objs.size [] := Heap.DictOfH.new s.heap
  have I1 := I.laid (a := s.heap.objs.size) (o := DicO X.prog X.w s.heap.objs.size []) (h' := s.heap.push { cls := .type "dict", data := .dict #[] }) (t' := s.toks) (fun _ _ q => Heap.get?_push_of_some _ q) (Nat.le_refl _) (dicO_ok hb (Nat.zero_le _) .nil d0)
  have hl := pairTrees_length [some k] [v] X.env pos rfl rfl
  rw [arm_eval_Dict, zip_pairTrees [some k] [v] X.env pos rfl rfl, dictDisplay_pairs (pairTrees [some k] [v] X.env pos) (fun z => by rw [z] at hl; cases hl) (by rw [hl]; simp)]
  refine wpAny_bind (wpAny_standAt (wpAny_bind (wpAny_subDictH (knd := nestedKind X.prog X.w) (Q := fun d s' => wpAny (model X.prog X.w) X.A (pure (Value.ref d)) (EP X pins σ Q) X.xe s') (by show X.A.units + 8 < cLine; omega) (by rw [hl]; simp) ?_)))
  refine pairTrees_cons_walk (thn (hk.run pins _ σ _ _ I1 (q _ hn)) fun u s1 ⟨x, H1, I1', rx, q1⟩ => thn (hv.run pins s1 σ H1 _ I1' q1) fun z2 s2 ⟨y, H2, I2, r3, F, b, k', n, ex, h2, sb, rk, hk', hd, q2⟩ => pairTrees_nil_walk ?_)
  subst ex
  cases rx
  obtain ⟨h1, _, xs, h3, dd⟩ := dic_of (F := F) I2 sb h2 .nil
  cases h3
  refine ⟨[(n, b, z2)], ⟨rfl, rfl, ⟨key_is I2 sb rk hk' rfl, hd⟩, True.intro⟩, dd, fun h' tk' dd' hs => wpAny_pure ⟨.ref s.heap.objs.size, _, d_write I2 (by rw [h2]; exact True.intro) hs (let ⟨q, _, _, hq, _⟩ := dd'; ⟨q, hq⟩) (dicO_ok h1 (by simp; have := sizeLine_eq; omega) (xs := [(n, b, z2)]) (.cons ⟨rfl, rfl, r3⟩ .nil) (by simpa [storedAllH, storedH, atKey] using dd')), rfl, q2⟩⟩
end
/-! ### no dict is a code object -/
theorem heap_of (n : Nat) : ∃ h : Heap, h.objs.size = n := by
  induction n with
  | zero => exact ⟨{ objs := #[] }, rfl⟩
  | succ n ih => obtain ⟨h, e⟩ := ih; exact ⟨h.push { cls := .none, data := .fields #[] }, by rw [Heap.size_push, e]⟩
theorem dic_ne_code {P : Program} {w : World} {p : Addr} {es : List (NestedKey × Addr × V)} {q : Str} : DicO P w p es ≠ LamX.CodeO p q := fun z => by
  unfold DicO LamX.CodeO at z
  injection z with z
  obtain ⟨h, e⟩ := heap_of p
  have g : (h.push { cls := .none, data := .fields #[.none, .str q 0] }).get? p = some { cls := .none, data := .fields #[.none, .str q 0] } := by
    rw [← e]; exact Heap.get?_push_size h rfl
  have k := (congrFun z (h.push { cls := .none, data := .fields #[.none, .str q 0] })).mpr ⟨_, _, 0, g, rfl, rfl⟩
  obtain ⟨_, _, xs, _, o, ents, ep, b1, b2, b3, _⟩ := k
  rw [g] at b1
  cases b1
  cases b3
theorem tabs_updG {T : List (Addr × Str)} {H : Hp} {p : Addr} {o o' : HO} (h : Tabs T H) (e : H p = some o) (h1 : ∀ ps, o ≠ .tbl ps) (h2 : ∀ q, o ≠ LamX.CodeO p q) : Tabs T (upd H p o') := fun q hq => by
  obtain ⟨ps, k1, k2, k3⟩ := h q hq
  refine ⟨ps, ?_, k2, fun pos cv hc => ?_⟩
  · rw [upd_ne fun z => by rw [z, e] at k1; exact h1 ps (Option.some.inj k1)]; exact k1
  · obtain ⟨c, e1, e2⟩ := k3 pos cv hc
    refine ⟨c, e1, ?_⟩
    rw [upd_ne fun z => by subst z; rw [e] at e2; exact h2 _ (Option.some.inj e2)]; exact e2
theorem OwnAt.updN {K : PySem.W.Frag} {F H : Hp} {p q : Addr} {o : HO} (hne : q ≠ p) : ∀ {d : D}, OwnAt K F H q d → OwnAt K F (upd H p o) q d
  | .lst ds, ⟨zs, k1, k2⟩ => ⟨zs, by rw [upd_ne hne]; exact k1, k2⟩
  | .dK _, h => by show upd H p o q = _; rw [upd_ne hne]; exact h
  | .dT _, h => by show upd H p o q = _; rw [upd_ne hne]; exact h
  | .dic _ _ _ _, ⟨es, k1, k2⟩ => ⟨es, by rw [upd_ne hne]; exact k1, k2⟩
  | .ins _ _ _, ⟨dx, ws, k1, k2⟩ => ⟨dx, ws, by rw [upd_ne hne]; exact k1, k2⟩
  | .non, h => h.elim
  | .bl _, h => h.elim
  | .int _, h => h.elim
  | .str _, h => h.elim
  | .tup _, h => h.elim
  | .fn _, h => h.elim
  | .ty _, h => h.elim
  | .arr _, h => h.elim
  | .pro _, h => h.elim
  | .adr _, h => h.elim
  | .tab _ _ _, h => h.elim
section
variable {K : PySem.W.Frag} {T : List (Addr × Str)} {W : WX} {F0 H0 F H : Hp} {σ : L2.St} {ρ : Rho}
theorem Rl.setG {i : Nat} {p : Addr} {d : D} (r : Rl K F H σ ρ) (hp : F p = none) (hx : OwnAt K F H p d) (fr : ∀ (j : Nat) (d : D) (q : Addr), ρ[j]? = some (En.o d) → σ[j]? = some (some (V.ref q)) → q ≠ p) :
    Rl K F H (σ.set i (some (.ref p))) (ρ.set i (.o d)) where
  len := by rw [List.length_set, List.length_set]; exact r.len
  z := fun j e hj => by
    rw [List.getElem?_set] at hj ⊢
    by_cases hij : i = j
    · subst hij
      rw [if_pos rfl] at hj
      split at hj <;> cases hj
    · rw [if_neg hij] at hj ⊢
      exact r.z j e hj
  o := fun j e hj => by
    rw [List.getElem?_set] at hj ⊢
    by_cases hij : i = j
    · subst hij
      rw [if_pos rfl] at hj ⊢
      by_cases hl : i < ρ.length
      · rw [if_pos hl] at hj
        rw [if_pos (by rw [r.len]; exact hl)]
        cases hj
        exact ⟨p, rfl, hp, hx⟩
      · rw [if_neg hl] at hj; cases hj
    · rw [if_neg hij] at hj ⊢
      exact r.o j e hj
  ne := fun j k a b q1 q2 hn h1 h2 h3 h4 => by
    rw [List.getElem?_set] at h1 h2 h3 h4
    by_cases fj : i = j
    · have fk : i ≠ k := fun z => hn (fj.symm.trans z)
      rw [if_neg fk] at h2 h4
      rw [if_pos fj] at h3
      have : q1 = p := by split at h3 <;> cases h3; rfl
      rw [this]
      exact Ne.symm (fr k _ q2 h2 h4)
    · rw [if_neg fj] at h1 h3
      by_cases fk : i = k
      · rw [if_pos fk] at h4
        have : q2 = p := by split at h4 <;> cases h4; rfl
        rw [this]
        exact fr j _ q1 h1 h3
      · rw [if_neg fk] at h2 h4
        exact r.ne j k a b q1 q2 hn h1 h2 h3 h4
/-- an own object made at p, bound to slot i -/
theorem Sg.ownG {F1 H1 : Hp} {i : Nat} {p : Addr} {d : D} (g : Sg K T F0 H0 F H σ ρ) (n : Nx T F H F1 H1) (hp : F1 p = none) (hx : OwnAt K F1 H1 p d) (fr : ∀ o, H p = some o → ∃ ps, o = .tbl ps) :
    Sg K T F0 H0 F1 H1 (σ.set i (some (.ref p))) (ρ.set i (.o d)) := by
  have g1 := g.step n
  refine ⟨⟨g1.at_.z, g1.at_.t, g1.at_.r.setG hp hx fun j d q h1 h2 e => ?_⟩, g1.nx, g1.ow.setO fun o ho => ?_⟩
  · obtain ⟨q', k1, k2, k3⟩ := g.at_.r.o j d h1
    rw [h2] at k1
    cases k1
    obtain ⟨o, k4, k5⟩ := k3.solid
    rw [e] at k4
    obtain ⟨ps, k6⟩ := fr o k4
    exact k5 ps k6
  · by_cases q : ∃ ps, o = .tbl ps
    · exact q
    · exact fr o (g.nx.h p o ho fun ps z => q ⟨ps, z⟩)
/-- the own object at slot i is changed -/
theorem Sg.putG {i : Nat} {p : Addr} {d d' : D} {o o' : HO} (g : Sg K T F0 H0 F H σ ρ) (hi : ρ[i]? = some (.o d)) (hs : σ[i]? = some (some (.ref p))) (hx : H p = some o) (h1 : ∀ ps, o ≠ .tbl ps) (h2 : ∀ q, o ≠ LamX.CodeO p q) (ry : OwnAt K F (upd H p o') p d') :
    Sg K T F0 H0 F (upd H p o') σ (ρ.set i (.o d')) := by
  have il : i < ρ.length := (List.getElem?_eq_some_iff.mp hi).1
  have hp : F p = none := by
    obtain ⟨q, h1, h2, h3⟩ := g.at_.r.o i d hi
    rw [hs] at h1; cases h1; exact h2
  have z1 : Fz F (upd H p o') := ⟨fun b o eb => by
    rw [upd_ne fun z => by rw [z, hp] at eb; cases eb]; exact g.at_.z.sub _ _ eb, g.at_.z.nt⟩
  refine ⟨⟨z1, tabs_updG g.at_.t hx h1 h2, ?_⟩, ⟨g.nx.f, z1, fun b o eb no => ?_, g.nx.new, fun t => tabs_updG (g.nx.tab t) hx h1 h2⟩, fun j e q h1 h2 => ?_⟩
  · refine ⟨by rw [List.length_set]; exact g.at_.r.len, fun j e hj => ?_, fun j e hj => ?_, fun j k a b q1 q2 hn h1 h2 h3 h4 => ?_⟩
    · rw [List.getElem?_set] at hj
      by_cases hij : i = j
      · rw [if_pos hij] at hj
        split at hj <;> cases hj
      · rw [if_neg hij] at hj
        exact g.at_.r.z j e hj
    · rw [List.getElem?_set] at hj
      by_cases hij : i = j
      · subst hij
        rw [if_pos rfl, if_pos il] at hj
        cases hj
        exact ⟨p, hs, hp, ry⟩
      · rw [if_neg hij] at hj
        obtain ⟨q, h1, h2, h3⟩ := g.at_.r.o j e hj
        have hne : p ≠ q := g.at_.r.ne i j _ _ p q hij hi hj hs h1
        exact ⟨q, h1, h2, h3.updN (Ne.symm hne)⟩
    · have o1 : ∀ j e, (ρ.set i (.o d'))[j]? = some (En.o e) → ∃ e', ρ[j]? = some (En.o e') := fun j e h => by
        rw [List.getElem?_set] at h
        by_cases hij : i = j
        · subst hij; exact ⟨d, hi⟩
        · rw [if_neg hij] at h; exact ⟨e, h⟩
      obtain ⟨a', h1⟩ := o1 j a h1
      obtain ⟨b', h2⟩ := o1 k b h2
      exact g.at_.r.ne j k a' b' q1 q2 hn h1 h2 h3 h4
  · rw [upd_ne fun z => by
      subst z
      obtain ⟨ps, k⟩ := g.ow i d b hi hs o eb
      exact no ps k]
    exact g.nx.h _ _ eb no
  · rw [List.getElem?_set] at h1
    by_cases hij : i = j
    · subst hij
      exact g.ow i d q hi h2
    · rw [if_neg hij] at h1
      exact g.ow j e q h1 h2
theorem nx_fillN {P : Program} {w : World} {F1 H1 : Hp} {p : Addr} {o : HO} (z : Fz F H) (hp : H p = none) (n1 : Nx T F (upd H p (DicO P w p [])) F1 H1) : Nx T F H F1 (upd H1 p o) ∧ H1 p = some (DicO P w p []) ∧ F1 p = none := by
  have nt : ∀ ps, DicO P w p [] ≠ .tbl ps := fun ps q => by unfold DicO at q; cases q
  have k1 : H1 p = some (DicO P w p []) := n1.keep upd_same nt
  have f1 : F1 p = none := n1.out (a := p) (o := DicO P w p []) upd_same nt (frn z hp)
  refine ⟨⟨n1.f, ⟨fun x u e => ?_, n1.z.nt⟩, fun b u e nt => ?_, fun x u e => ?_, fun t => ?_⟩, k1, f1⟩
  · rw [upd_ne fun q => by rw [q, f1] at e; cases e]
    exact n1.z.sub _ _ e
  · have hb : b ≠ p := ne_of_none e hp
    rw [upd_ne hb]
    exact n1.h b u (by rw [upd_ne hb]; exact e) nt
  · rcases n1.new x u e with h | h
    · exact .inl h
    · exact .inr fun o' e' => h o' (by rw [upd_ne (ne_of_none e' hp)]; exact e')
  · exact tabs_updG (n1.tab ((Nx.lay (T := T) z hp).tab t)) k1 nt fun q => dic_ne_code
end
/-! ### by data -/
open Classical in
noncomputable def dicR (P : Program) (w : World) (i : Nat) (ρ : Rho) : Res (List D × List D) := match ρ[i]? with
  | some (.o (.dic P' w' ks vs)) => if P' = P ∧ w' = w then .ok (ks, vs) else .bad
  | _ => .bad
theorem dicR_ok {P : Program} {w : World} {i : Nat} {ρ : Rho} {q : List D × List D} (h : dicR P w i ρ = .ok q) : ρ[i]? = some (.o (.dic P w q.1 q.2)) := by
  unfold dicR at h
  split at h
  · rename_i e
    split at h
    · rename_i c
      obtain ⟨rfl, rfl⟩ := c
      cases h; exact e
    · cases h
  · cases h
theorem dicR_nex {P : Program} {w : World} {i : Nat} {ρ : Rho} {m : Str} (h : dicR P w i ρ = .ex m) : False := by
  unfold dicR at h
  split at h
  · split at h <;> cases h
  · cases h
theorem dicR_def {P : Program} {w : World} {i : Nat} {ρ : Rho} {ks vs : List D} (h : ρ[i]? = some (.o (.dic P w ks vs))) : dicR P w i ρ = .ok (ks, vs) := by
  unfold dicR
  rw [h]
  simp
def keyD : D → Option NestedKey
  | .tup ds => (D.key (.tup ds)).bind fun n => if n.depth ≤ 8 then some n else none
  | _ => none
theorem keyD_ok {k : D} {n : NestedKey} (h : keyD k = some n) : (∃ ds, k = .tup ds) ∧ k.key = some n ∧ n.depth ≤ 8 := by
  unfold keyD at h
  split at h
  · rename_i ds
    obtain ⟨m, h1, h2⟩ := Option.bind_eq_some_iff.mp h
    split at h2
    · rename_i hd
      cases h2
      exact ⟨⟨ds, rfl⟩, h1, hd⟩
    · cases h2
  · cases h
def findR (q : List D × List D) (k : D) : Res (Option D) := match keyD k with
  | some n => .ok (dfind q.1 q.2 n)
  | none => .bad
noncomputable def inN (P : Program) (w : World) (i : Nat) (fk : Rho → Res D) : Rho → Res Bool := fun ρ => (fk ρ).bind fun k => (dicR P w i ρ).bind fun q => (findR q k).bind fun r => .ok r.isSome
noncomputable def ixNd (P : Program) (w : World) (i : Nat) (fk : Rho → Res D) : Rho → Res D := fun ρ => (dicR P w i ρ).bind fun q => (fk ρ).bind fun k => (findR q k).bind fun r => ofO r
def putR (P : Program) (w : World) (i : Nat) (ρ : Rho) (q : List D × List D) (k d : D) : SR := match keyD k with
  | some n => if q.1.length < sizeLine then .nx (ρ.set i (.o (.dic P w (dput q.1 q.2 n k d).1 (dput q.1 q.2 n k d).2))) else .bad
  | none => .bad
noncomputable def sputN (P : Program) (w : World) (i : Nat) (fk fe : Rho → Res D) : Rho → SR := fun ρ => bindS (fe ρ) ρ fun d => bindS (dicR P w i ρ) ρ fun q => bindS (fk ρ) ρ fun k => putR P w i ρ q k d
def newR (P : Program) (w : World) (i : Nat) (ρ : Rho) (k d : D) : SR := match keyD k with
  | some _ => .nx (ρ.set i (.o (.dic P w [k] [d])))
  | none => .bad
def sownN (P : Program) (w : World) (fk fv : Rho → Res D) (i : Nat) : Rho → SR := fun ρ => bindS (fk ρ) ρ fun k => bindS (fv ρ) ρ fun d => newR P w i ρ k d
section
variable {X : Cx} {T : List (Addr × Str)} {W : WX} {F0 H0 : Hp}
theorem own_dic {F H : Hp} {σ : L2.St} {ρ : Rho} {i : Nat} {P : Program} {w : World} {q : List D × List D} (r : Rl X.K F H σ ρ) (h : dicR P w i ρ = .ok q) : ∃ p es, σ[i]? = some (some (.ref p)) ∧ F p = none ∧ H p = some (DicO P w p es) ∧ DicR X.K F es q.1 q.2 := by
  obtain ⟨p, h1, h2, es, h3, h4⟩ := r.o i _ (dicR_ok h)
  exact ⟨p, es, h1, h2, h3, h4⟩
theorem nt_dic {P : Program} {w : World} {p : Addr} {es : List (NestedKey × Addr × V)} : ∀ ps, DicO P w p es ≠ .tbl ps := fun ps q => by unfold DicO at q; cases q
theorem find_to {F H : Hp} {σ : L2.St} {ρ : Rho} {i : Nat} {q : List D × List D} {k : D} {v : V} {r : Option D} (a : At X.K T F H σ ρ) (hq : dicR X.prog X.w i ρ = .ok q) (rk : Rp X.K F v k) (hf : findR q k = .ok r) :
    ∃ p b es n, v = .ref b ∧ σ[i]? = some (some (.ref p)) ∧ H p = some (DicO X.prog X.w p es) ∧ DicR X.K F es q.1 q.2 ∧ k.key = some n ∧ n.depth ≤ 8 ∧ dfind q.1 q.2 n = r := by
  obtain ⟨p, es, h1, h2, h3, h4⟩ := own_dic a.r hq
  unfold findR at hf
  split at hf
  · rename_i n hn
    obtain ⟨⟨ds, rfl⟩, hk, hd⟩ := keyD_ok hn
    cases hf
    cases rk with
    | tup _ _ => exact ⟨p, _, es, n, rfl, h1, h3, h4, hk, hd, rfl⟩
  · cases hf
theorem q_inN {x : Str} {i : Nat} {k : Expr} {p pos : Pos} {fk : Rho → Res D} (hu : X.A.units + 64 < cLine) (hv : PE X (.Name x p) (tVar i)) (hk : DE X T W k fk) (hm : behindInMarks .In (.Name x p) = false := by rfl) : DQ X T W (.Compare k [.In] [.Name x p] pos) (inN X.prog X.w i fk) :=
  (pt_cmpR (op_inN hu) hk hv hm).to fun σ H Q ⟨ρ, F, a, h⟩ => by
    refine ⟨ρ, F, a, (aft.bind (R := Rp X.K) h).imp fun d _ v F1 H1 _ _ q => ?_⟩
    obtain ⟨k', F2, _, n, rv, q⟩ := q
    cases e : dicR X.prog X.w i ρ with
    | bad => rw [e] at q; exact q.elim
    | ex m => exact (dicR_nex e).elim
    | ok qq =>
      rw [e] at q
      have q : aft RBool X.K T W σ F2 H1 Q ((findR qq k').bind fun r => .ok r.isSome) := q
      cases e2 : findR qq k' with
      | bad => rw [e2] at q; exact q.elim
      | ex m => unfold findR at e2; split at e2 <;> cases e2
      | ok r =>
        rw [e2] at q
        obtain ⟨p, b, es, nn, rfl, h1, h3, h4, hk, hd, hf⟩ := find_to (a.nx n) e rv e2
        exact ⟨.ref p, h1, F2, p, b, es, qq.1, qq.2, k', nn, rfl, rfl, n.z.sub, h3, h4, rv, hk, hd, _, rfl, by rw [hf]; exact q _ F2 H1 (Nx.refl n.z) rfl⟩
theorem e_ixN {x : Str} {i : Nat} {k : Expr} {p pos : Pos} {fk : Rho → Res D} (hu : X.A.units + 64 < cLine) (hv : PE X (.Name x p) (tVar i)) (hk : DE X T W k fk) (hs : PlainIx k := by exact fun _ _ => rfl) : DE X T W (.Subscript (.Name x p) k pos) (ixNd X.prog X.w i fk) :=
  (pe_ix (ix_N hu) hv hk hs).to fun σ H Q ⟨ρ, F, a, h⟩ => by
    unfold ixNd at h
    cases e : dicR X.prog X.w i ρ with
    | bad => rw [e] at h; exact h.elim
    | ex m => exact (dicR_nex e).elim
    | ok qq =>
      rw [e] at h
      have h : aft (Rp X.K) X.K T W σ F H Q ((fk ρ).bind fun k => (findR qq k).bind fun r => ofO r) := h
      obtain ⟨p0, es0, h10, h20, h30, h40⟩ := own_dic a.r e
      refine ⟨.ref p0, h10, ρ, F, a, (aft.bind (R := Rp X.K) h).imp fun d _ v F1 H1 _ _ q => ?_⟩
      obtain ⟨k', F2, _, n, rv, q⟩ := q
      have q : aft (Rp X.K) X.K T W σ F2 H1 Q ((findR qq k').bind fun r => ofO r) := q
      cases e2 : findR qq k' with
      | bad => rw [e2] at q; exact q.elim
      | ex m => unfold findR at e2; split at e2 <;> cases e2
      | ok r =>
        rw [e2] at q
        obtain ⟨p, b, es, nn, rfl, h1, h3, h4, hk, hd, hf⟩ := find_to (a.nx n) e rv e2
        rw [h10] at h1
        cases h1
        obtain ⟨z, hz, q⟩ := ofO_ok q
        exact ⟨F2, _, b, es, qq.1, qq.2, k', nn, z, rfl, rfl, n.z.sub, h3, h4, rv, hk, hd, by rw [hf]; exact hz, fun v rv => q v F2 H1 (Nx.refl n.z) rv⟩
theorem s_putN {x : Str} {i : Nat} {k e : Expr} {p spos pos : Pos} {fk fe : Rho → Res D} (hu : X.A.units + 64 < cLine) (hv : PE X (.Name x p) (tVar i)) (hk : DE X T W k fk) (he : DE X T W e fe)
    (ha : ∀ v, assign (.Subscript (.Name x p) k spos) X.env v = (do
      let ov ← holding [v] (eval (.Name x p) X.env)
      let iv ← holding [v, ov] (eval k X.env)
      standAt spos
      holding [v, ov, iv] (setItem ov iv v)
      release [v, ov, iv] []) := by intro _; rfl)
    (hs : swapsWithSole [.Subscript (.Name x p) k spos] e pos.line X.env = pure false := by rfl) (hw : swappedStores [.Subscript (.Name x p) k spos] e X.env = pure none := by rfl)
    (h1 : (assignEach [.Subscript (.Name x p) k spos] X.env).map (·.2) = [assign (.Subscript (.Name x p) k spos) X.env] := by rfl) :
    DS X T W F0 H0 (.Assign [.Subscript (.Name x p) k spos] e pos) (sputN X.prog X.w i fk fe) :=
  (ps_asg he (pg_sub hv hk (set_N hu) ha) hs hw h1).to fun Z σ H ⟨ρ, F, g, h⟩ => by
    refine ⟨ρ, F, g.at_, (aftS.bind (R := Rp X.K) g h).imp fun d _ v F1 H1 _ _ q => ?_⟩
    obtain ⟨d', F2, _, n, g2, rv, q⟩ := q
    cases e : dicR X.prog X.w i ρ with
    | bad => rw [e] at q; exact q.elim
    | ex m => exact (dicR_nex e).elim
    | ok qq =>
      rw [e] at q
      obtain ⟨p0, es0, h10, h20, h30, h40⟩ := own_dic g2.at_.r e
      refine ⟨.ref p0, h10, ρ, F2, g2.at_, (aftS.bind (R := Rp X.K) g2 q).imp fun d _ w F3 H3 _ _ q => ?_⟩
      obtain ⟨k', F4, _, n2, g4, rk, q⟩ := q
      have q : aftS X.K T W F0 H0 F4 Z (putR X.prog X.w i ρ qq k' d') := q
      unfold putR at q
      cases e2 : keyD k' with
      | none => rw [e2] at q; exact q.elim
      | some nn =>
        rw [e2] at q
        have q : aftS X.K T W F0 H0 F4 Z (if qq.1.length < sizeLine then .nx (ρ.set i (.o (.dic X.prog X.w (dput qq.1 qq.2 nn k' d').1 (dput qq.1 qq.2 nn k' d').2))) else .bad) := q
        split at q
        · rename_i hl
          obtain ⟨⟨ds, rfl⟩, hk', hd⟩ := keyD_ok e2
          have k3 : H3 p0 = some (DicO X.prog X.w p0 es0) := n2.keep h30 nt_dic
          cases rk with
          | tup a1 a2 =>
            refine ⟨F4, p0, _, es0, qq.1, qq.2, _, nn, d', rfl, rfl, n2.z.sub, k3, h40.mono n2.f, .tup a1 a2, hk', hd, rv.mono n2.f, hl, fun es' r' => ?_⟩
            exact q σ F4 _ (g4.putG (dicR_ok e) h10 k3 nt_dic (fun q => dic_ne_code) ⟨es', upd_same, r'⟩) (Sub.refl F4)
        · exact q.elim
theorem s_ownN {tg k v : Expr} {pos dpos : Pos} {fk fv : Rho → Res D} {i : Nat} (hu : X.A.units + 64 < cLine) (hk : DE X T W k fk) (hv : DE X T W v fv) (hg : PG X tg (gName i)) (hs : swapsWithSole [tg] (.Dict [some k] [v] dpos) pos.line X.env = pure false := by rfl) (hw : swappedStores [tg] (.Dict [some k] [v] dpos) X.env = pure none := by rfl)
    (h1 : (assignEach [tg] X.env).map (·.2) = [assign tg X.env] := by rfl) : DS X T W F0 H0 (.Assign [tg] (.Dict [some k] [v] dpos) pos) (sownN X.prog X.w fk fv i) :=
  (ps_asg (pe_dispN hu hk hv) hg hs hw h1).to fun Z σ H ⟨ρ, F, g, h⟩ => by
    intro p hp
    have n0 : Nx T F H F (upd H p (DicO X.prog X.w p [])) := Nx.lay g.at_.z hp
    have g0 := g.step n0
    have h : aftS X.K T W F0 H0 F Z (bindS (fk ρ) ρ fun k => bindS (fv ρ) ρ fun d => newR X.prog X.w i ρ k d) := h
    refine ⟨ρ, F, g0.at_, (aftS.bind (R := Rp X.K) g0 h).imp fun d _ x F1 H1 _ _ q => ?_⟩
    obtain ⟨k', F2, _, n1, g2, rk, q⟩ := q
    refine ⟨ρ, F2, g2.at_, (aftS.bind (R := Rp X.K) g2 q).imp fun d _ y F3 H3 _ _ q => ?_⟩
    obtain ⟨d', F4, _, n2, g4, rv, q⟩ := q
    have q : aftS X.K T W F0 H0 F4 Z (newR X.prog X.w i ρ k' d') := q
    unfold newR at q
    cases e2 : keyD k' with
    | none => rw [e2] at q; exact q.elim
    | some nn =>
      rw [e2] at q
      obtain ⟨⟨ds, rfl⟩, hk', hd⟩ := keyD_ok e2
      cases rk with
      | @tup b _ _ a1 a2 =>
        obtain ⟨nf, k1, f1⟩ := nx_fillN (P := X.prog) (w := X.w) (o := DicO X.prog X.w p [(nn, b, y)]) g.at_.z hp (n1.trans n2)
        refine ⟨F4, b, _, nn, rfl, k1, n2.z.sub, (Rp.tup a1 a2).mono n2.f, hk', hd, ?_⟩
        exact q _ F4 _ (g.ownG nf f1 ⟨_, upd_same, .cons hk' hd ((Rp.tup a1 a2).mono n2.f) rv .nil⟩ fun o ho => by rw [hp] at ho; cases ho) (Sub.refl F4)
end
end DN
/-! known tuples of texts: written ones, + -/
namespace DN
open PySem PySem.Spec PyProof.Rows L2
open LamX (Tabs ExtN)
section
variable {X : Cx} {T : List (Addr × Str)} {W : WX}
def tTupF (t : TA) : TE := fun σ H Q => t σ H fun xs H1 => xs.length ≤ sizeLine ∧ ∀ (p : Addr) (o : Obj), o.cls = .type "tuple" → o.dict = none → H1 p = none → Q (.ref p) (upd H1 p (.frz o (.tup xs)))
theorem pe_tupF {es : List Expr} {t : TA} {pos : Pos} {x1} (h : PA X es t) : PE X (.Tuple es x1 pos) (tTupF t) := by
  refine ⟨fun pins s σ H Q I hq => ?_⟩
  refine wpAny_Tuple_spliced (thn (h.run pos pins s σ H _ I hq) fun us s1 ⟨xs, H1, I1, r, z, q⟩ => ⟨by rw [← r.length]; exact z, ?_⟩)
  have hf : H1 s1.heap.objs.size = none := I1.hok.fresh (Nat.le_refl _)
  refine ⟨.ref s1.heap.objs.size, _, I1.laid (t' := s1.toks) (fun b u e => Heap.get?_push_of_some _ e) (Nat.le_refl _) ?_, rfl, q _ { cls := .type "tuple", data := .seq us.toArray } rfl rfl hf⟩
  exact ⟨Heap.get?_push_size _ rfl, z, us, r, IsTup.new _ _⟩
def mkP (f : Rho → Res (List D)) : Rho → Res D := fun ρ => (f ρ).bind fun ds => match strsOf ds with
  | some xs => if ds.length ≤ sizeLine then .ok (.pro xs) else .bad
  | none => .bad
theorem e_tupP {es : List Expr} {f : Rho → Res (List D)} {pos : Pos} {x1} (h : DA X T W es f) : DE X T W (.Tuple es x1 pos) (mkP f) :=
  (pe_tupF h).to fun σ H Q ⟨ρ, F, a, h⟩ => by
    refine ⟨ρ, F, a, (aft.bind (R := RpAll X.K) h).imp fun d _ v F1 H1 _ _ q => ?_⟩
    obtain ⟨ds, F2, _, n, rv, q⟩ := q
    have q : aft (Rp X.K) X.K T W σ F2 H1 Q (match strsOf ds with
      | some xs => if ds.length ≤ sizeLine then .ok (.pro xs) else .bad
      | none => .bad) := q
    cases e : strsOf ds with
    | none => rw [e] at q; exact q.elim
    | some xs =>
      rw [e] at q
      have q : aft (Rp X.K) X.K T W σ F2 H1 Q (if ds.length ≤ sizeLine then .ok (.pro xs) else .bad) := q
      split at q
      · rename_i hl
        have ev := rp_strsOf rv e
        subst ev
        exact ⟨by rw [rv.length]; exact hl, fun p o h1 h2 hp => q _ _ _ (Nx.push n.z hp ntF) (.pro ⟨o, h1, h2, upd_same⟩)⟩
      · exact q.elim
def addP : D → D → Option D
  | .pro xs, .pro ys => if xs.length + ys.length ≤ sizeLine then some (.pro (xs ++ ys)) else none
  | _, _ => none
theorem o_addP : OpR X (binaryOp .Add) (rD2 X.K T addP) := by
  intro pins s σ H x y v u Q I rx ry h
  obtain ⟨F, d, e, z, hz, rd, re, hG, q⟩ := h
  unfold addP at hG
  split at hG
  · rename_i xs ys
    split at hG
    · rename_i hl
      cases hG
      cases rd with
      | @pro a _ h1 =>
        cases re with
        | @pro b _ h2 =>
          have s1 : SqT X.K H a (xs.map V.str) := sq_pro hz h1
          have s2 : SqT X.K H b (ys.map V.str) := sq_pro hz h2
          obtain ⟨its, r1, p1, _⟩ := I.tuple s1
          obtain ⟨its2, r2, p2, _⟩ := I.tuple s2
          cases rx
          cases ry
          by_cases hx : xs = []
          · subst hx
            cases r1
            exact cat_tup0 p1 p2 ⟨.ref b, H, I, rfl, done0 hz q (.pro h2)⟩
          · refine HT.cat_tup p1 p2 (fun z => hx (by have := r1.nil_iff.mp z; simpa using this)) (fun z => ⟨.ref a, H, I, rfl, ?_⟩) (fun z => ?_) (by rw [← r1.length, ← r2.length, List.length_map, List.length_map]; exact hl)
            · have := r2.nil_iff.mp z
              have hy : ys = [] := by simpa using this
              subst hy
              rw [List.append_nil] at q
              exact done0 hz q (.pro h1)
            · have hf := I.hok.fresh (Nat.le_refl s.heap.objs.size)
              refine ⟨.ref s.heap.objs.size, _, I.laid (t' := s.toks) (o := .frz { cls := .type "tuple", data := .seq (its ++ its2).toArray } (.tup ((xs ++ ys).map V.str))) (fun b ob q => Heap.get?_push_of_some _ q) (Nat.le_refl _) ?_, rfl, q _ _ _ (Nx.push hz hf ntF) (.pro ⟨_, rfl, rfl, upd_same⟩)⟩
              refine ⟨?_, by rw [List.length_map, List.length_append]; exact hl, _, by rw [List.map_append]; exact r1.append r2, IsTup.new _ _⟩
              simpa using Heap.get?_push_size s.heap (o := { cls := .type "tuple", data := .seq (its ++ its2).toArray }) rfl
    · cases hG
  · cases hG
theorem _root_.L2.Room.units65 {k : Nat} {A : Around} (r : Room k A) : A.units + 65 < cLine := by have := r.un; omega
def ixnD : D → List D → Option D
  | .lst ds, [d] => if (plain 60 d && plains 60 ds) = true then (ds.findIdx? fun y => eqd y d).map fun (j : Nat) => .int j else none
  | _, _ => none
theorem pyA_get : ∀ (ds : List D) (j : Nat), (pyA ds)[j]? = (ds[j]?).map pyO
  | [], j => by simp [pyA]
  | d :: ds, 0 => rfl
  | d :: ds, j + 1 => by
    show (pyA ds)[j]? = _
    rw [pyA_get ds j]; simp
theorem plains_get : ∀ {ds : List D} {j : Nat} {d : D}, plains 60 ds = true → ds[j]? = some d → plain 60 d = true
  | [], j, d, _, e => by simp at e
  | y :: ds, 0, d, h, e => by
    have h : (plain 60 y && plains 60 ds) = true := h
    rw [Bool.and_eq_true] at h
    simp at e; subst e; exact h.1
  | y :: ds, j + 1, d, h, e => by
    have h : (plain 60 y && plains 60 ds) = true := h
    rw [Bool.and_eq_true] at h
    exact plains_get h.2 (by simpa using e)
theorem m_ixn (hu : X.A.units + 65 < cLine) : MtR X "list.index" (rDm X.K T ixnD) := by
  intro pins s σ H x xs v us Q I rx rxs h
  obtain ⟨F, d, ds, z, hz, rd, rs, hG, q⟩ := h
  unfold ixnD at hG
  split at hG
  · rename_i ds d'
    obtain ⟨y, rfl, ry⟩ := all1 rs
    cases rd with
    | lst h1 r1 =>
      split at hG
      · rename_i hp
        rw [Bool.and_eq_true] at hp
        cases e2 : ds.findIdx? fun y => eqd y d' with
        | none => rw [e2] at hG; cases hG
        | some j =>
          rw [e2] at hG
          cases hG
          obtain ⟨hl, k1, k2⟩ := List.findIdx?_eq_some_iff_getElem.mp e2
          obtain ⟨a1, a2, a3⟩ := plain_py 60 d' y hp.1 (ry.mono hz.sub)
          obtain ⟨b1, b2, b3⟩ := plains_py 60 ds _ hp.2 (r1.mono hz.sub)
          refine mt_indexD hu pins s σ H _ _ v us Q I rx rxs ⟨_, y, pyO d', pyA ds, j, pyO ds[j], rfl, rfl, Dp.lst (SqL.of (hz.sub _ _ h1)) b1, a1, ?_, ?_, ?_, ?_, fun m z' hm hz' => ?_, q _ F H (Nx.refl hz) (.int _)⟩
          · unfold SeqAt.shaped
            rw [Bool.and_eq_true]
            refine ⟨?_, decide_eq_true ?_⟩
            · simpa [PyData.canLay0] using b2
            · simp only [PyData.depth]; omega
          · unfold SeqAt.shaped
            rw [Bool.and_eq_true]
            exact ⟨a2, decide_eq_true (by omega)⟩
          · rw [pyA_get, List.getElem?_eq_getElem hl]; rfl
          · rw [eqd_py 60 60 _ _ (plains_get hp.2 (List.getElem?_eq_getElem hl)) hp.1]; exact k1
          · rw [pyA_get] at hz'
            cases e3 : ds[m]? with
            | none => rw [e3] at hz'; cases hz'
            | some y' =>
              rw [e3] at hz'
              cases hz'
              rw [eqd_py 60 60 _ _ (plains_get hp.2 e3) hp.1]
              have hm2 : m < ds.length := by omega
              have e4 := List.getElem?_eq_getElem hm2
              rw [e3] at e4
              have := k2 m hm
              rw [← Option.some.inj e4] at this
              simpa using this
      · cases hG
  · cases hG
end
end DN
/-! M-mode: one slot holds a dict of text keys that is changed, also by callees -/
namespace DN
open PySem PySem.Spec PyProof.Rows L2
open LamX (Tabs ExtN)

/-! ### data without lists and dicts -/
mutual
def D.imm : D → Bool
  | .non => true
  | .bl _ => true
  | .int _ => true
  | .str _ => true
  | .fn _ => true
  | .ty _ => true
  | .adr _ => true
  | .pro _ => true
  | .pw _ => true
  | .tup ds => D.imms ds
  | _ => false
def D.imms : List D → Bool
  | [] => true
  | d :: ds => D.imm d && D.imms ds
end
/-- F without the addresses of S -/
def cut (F : Hp) (S : List Addr) : Hp := fun a => if a ∈ S then none else F a
theorem cut_in {F : Hp} {S : List Addr} {a : Addr} (h : a ∈ S) : cut F S a = none := if_pos h
theorem cut_out {F : Hp} {S : List Addr} {a : Addr} (h : a ∉ S) : cut F S a = F a := if_neg h
theorem cut_some {F : Hp} {S : List Addr} {a : Addr} {o : HO} (h : cut F S a = some o) : a ∉ S ∧ F a = some o := by
  by_cases e : a ∈ S
  · rw [cut_in e] at h; cases h
  · rw [cut_out e] at h; exact ⟨e, h⟩
/-- lists and dicts alone stand there -/
def Soft (F : Hp) (S : List Addr) : Prop := ∀ a ∈ S, ∀ o, F a = some o → (∃ xs, o = .lst xs) ∨ ∃ kvs, o = .dK kvs
theorem cut_sqT {K : PySem.W.Frag} {F : Hp} {S : List Addr} {a : Addr} {xs : List V} (h : SqT K F a xs) (hs : Soft F S) : SqT K (cut F S) a xs := by
  rcases h with h | h
  · refine .inl ?_
    rcases h with h | ⟨o, h⟩
    · refine .inl ?_
      rw [cut_out fun z => ?_]; exact h
      rcases hs a z _ h with ⟨_, e⟩ | ⟨_, e⟩ <;> cases e
    · refine .inr ⟨o, ?_⟩
      rw [cut_out fun z => ?_]; exact h
      rcases hs a z _ h with ⟨_, e⟩ | ⟨_, e⟩ <;> cases e
  · exact .inr h
mutual
theorem Rp.cutS {K : PySem.W.Frag} {F : Hp} {S : List Addr} (hs : Soft F S) : ∀ {v : V} {d : D}, Rp K F v d → d.imm = true → Rp K (cut F S) v d
  | _, _, .non, _ => .non
  | _, _, .bl b, _ => .bl b
  | _, _, .int i, _ => .int i
  | _, _, .str x, _ => .str x
  | _, _, .fn x, _ => .fn x
  | _, _, .ty n, _ => .ty n
  | _, _, .lst h t, e => by unfold D.imm at e; cases e
  | _, _, .tup h t, e => .tup (cut_sqT h hs) (RpAll.cutS hs t (by unfold D.imm at e; exact e))
  | _, _, .dK h, e => by unfold D.imm at e; cases e
  | _, _, .dT h, e => by unfold D.imm at e; cases e
  | _, _, .arr h, e => by unfold D.imm at e; cases e
  | _, _, .pro ⟨o, h1, h2, h3⟩, _ => .pro ⟨o, h1, h2, by
      rw [cut_out fun z => ?_]; exact h3
      rcases hs _ z _ h3 with ⟨_, e⟩ | ⟨_, e⟩ <;> cases e⟩
  | _, _, .pw h, _ => .pw (by
      rw [cut_out fun z => ?_]; exact h
      rcases hs _ z _ h with ⟨_, e⟩ | ⟨_, e⟩ <;> cases e)
  | _, _, .adr a, _ => .adr a
  | _, _, .frm h t, e => by unfold D.imm at e; cases e
  | _, _, .tab h1 h2 h3 t, e => by unfold D.imm at e; cases e
theorem RpAll.cutS {K : PySem.W.Frag} {F : Hp} {S : List Addr} (hs : Soft F S) : ∀ {vs : List V} {ds : List D}, RpAll K F vs ds → D.imms ds = true → RpAll K (cut F S) vs ds
  | _, _, .nil, _ => .nil
  | _, _, .cons h t, e => by
    unfold D.imms at e
    rw [Bool.and_eq_true] at e
    exact .cons (Rp.cutS hs h e.1) (RpAll.cutS hs t e.2)
end
/-! ### the state -/
/-- the fields: tuples and flat things, or own lists of such (their addresses) -/
inductive Flds (K : PySem.W.Frag) (F H : Hp) : List V → List D → List Addr → Prop
  | nil : Flds K F H [] [] []
  | imm {v : V} {d : D} {vs : List V} {ds : List D} {S : List Addr} : d.imm = true → Rp K F v d → Flds K F H vs ds S → Flds K F H (v :: vs) (d :: ds) S
  | lst {a : Addr} {xs : List V} {es : List D} {vs : List V} {ds : List D} {S : List Addr} : H a = some (.lst xs) → RpAll K F xs es → D.imms es = true → Flds K F H vs ds S → Flds K F H (.ref a :: vs) (.lst es :: ds) (a :: S)
abbrev MSt := List Str × List D
structure StAt (K : PySem.W.Frag) (F H : Hp) (p : Addr) (m : MSt) (S : List Addr) : Prop where
  ex : ∃ ws S', S = p :: S' ∧ H p = some (.dK (kvK m.1 ws)) ∧ m.1.length = ws.length ∧ Flds K F H ws m.2 S'
  nd : S.Nodup
  out : ∀ a ∈ S, F a = none
  nk : m.1.Nodup
theorem Flds.solid {K : PySem.W.Frag} {F H : Hp} {ws : List V} {ds : List D} {S : List Addr} (h : Flds K F H ws ds S) : ∀ a ∈ S, ∃ xs, H a = some (.lst xs) := by
  induction h with
  | nil => intro a h; cases h
  | imm _ _ _ ih => exact ih
  | lst h _ _ _ ih =>
    intro a ha
    rcases List.mem_cons.mp ha with rfl | ha
    · exact ⟨_, h⟩
    · exact ih a ha
theorem StAt.solid {K : PySem.W.Frag} {F H : Hp} {p : Addr} {m : MSt} {S : List Addr} (h : StAt K F H p m S) : ∀ a ∈ S, ∃ o, H a = some o ∧ ((∃ xs, o = .lst xs) ∨ ∃ kvs, o = .dK kvs) := by
  obtain ⟨ws, S', rfl, h1, _, h2⟩ := h.ex
  intro a ha
  rcases List.mem_cons.mp ha with rfl | ha
  · exact ⟨_, h1, .inr ⟨_, rfl⟩⟩
  · obtain ⟨xs, e⟩ := h2.solid a ha
    exact ⟨_, e, .inl ⟨_, rfl⟩⟩
theorem soft_nt {o : HO} (h : (∃ xs, o = .lst xs) ∨ ∃ kvs, o = .dK kvs) : ∀ ps, o ≠ .tbl ps := fun ps z => by
  rcases h with ⟨_, e⟩ | ⟨_, e⟩ <;> (rw [e] at z; cases z)
theorem StAt.mem {K : PySem.W.Frag} {F H : Hp} {p : Addr} {m : MSt} {S : List Addr} (h : StAt K F H p m S) : p ∈ S := by
  obtain ⟨_, _, rfl, _⟩ := h.ex
  exact List.mem_cons_self
theorem Flds.mono {K : PySem.W.Frag} {F H F' H' : Hp} {ws : List V} {ds : List D} {S : List Addr} (sf : Sub F F') (sh : ∀ a ∈ S, ∀ xs, H a = some (.lst xs) → H' a = some (.lst xs)) (h : Flds K F H ws ds S) : Flds K F' H' ws ds S := by
  induction h with
  | nil => exact .nil
  | imm e r _ ih => exact .imm e (r.mono sf) (ih sh)
  | lst h r e _ ih => exact .lst (sh _ List.mem_cons_self _ h) (r.mono sf) e (ih fun a ha => sh a (List.mem_cons_of_mem _ ha))
section
variable {K : PySem.W.Frag} {T : List (Addr × Str)} {W : WX} {F0 G F H F1 H1 : Hp} {σ : L2.St} {ρ : Rho} {p : Addr} {m : MSt} {S : List Addr}
theorem StAt.nx (h : StAt K F H p m S) (n : Nx T F H F1 H1) : StAt K F1 H1 p m S where
  ex := by
    obtain ⟨ws, S', e, h1, hl, h2⟩ := h.ex
    exact ⟨ws, S', e, n.keep h1 (fun ps z => by cases z), hl, h2.mono n.f fun a _ xs e => n.keep e fun ps z => by cases z⟩
  nd := h.nd
  nk := h.nk
  out := fun a ha => by
    obtain ⟨o, h1, h2⟩ := h.solid a ha
    exact n.out h1 (soft_nt h2) (h.out a ha) fun xs z => by rcases h2 with ⟨_, e⟩ | ⟨_, e⟩ <;> (rw [e] at z; cases z)
/-! ### lent: the state stands in the frozen part for a while -/
def lend (F H : Hp) (S : List Addr) : Hp := fun a => if a ∈ S then H a else F a
theorem lend_in {a : Addr} (h : a ∈ S) : lend F H S a = H a := if_pos h
theorem lend_out {a : Addr} (h : a ∉ S) : lend F H S a = F a := if_neg h
theorem lend_sub (h : ∀ a ∈ S, F a = none) : Sub F (lend F H S) := fun a o e => by
  rw [lend_out fun z => by rw [h a z] at e; cases e]; exact e
theorem lend_z (z : Fz F H) (h : StAt K F H p m S) : Fz (lend F H S) H where
  sub := fun a o e => by
    by_cases ha : a ∈ S
    · rw [lend_in ha] at e; exact e
    · rw [lend_out ha] at e; exact z.sub a o e
  nt := fun a ps e => by
    by_cases ha : a ∈ S
    · rw [lend_in ha] at e
      obtain ⟨o, h1, h2⟩ := h.solid a ha
      rw [e] at h1; cases h1
      exact soft_nt h2 ps rfl
    · rw [lend_out ha] at e; exact z.nt a ps e
theorem lend_flds {ws : List V} {ds : List D} {S' : List Addr} (sb : ∀ a ∈ S', a ∈ S) (sf : Sub F (lend F H S)) (h : Flds K F H ws ds S') : RpAll K (lend F H S) ws ds := by
  induction h with
  | nil => exact .nil
  | imm e r _ ih => exact .cons (r.mono sf) (ih sb)
  | lst h r e _ ih => exact .cons (.lst (by rw [lend_in (sb _ List.mem_cons_self)]; exact h) (r.mono sf)) (ih fun a ha => sb a (List.mem_cons_of_mem _ ha))
theorem lend_rp (h : StAt K F H p m S) : Rp K (lend F H S) (.ref p) (.tab (some p) m.1 m.2) := by
  obtain ⟨ws, S', e, h1, hl, h2⟩ := h.ex
  exact .tab (fun q e => Option.some.inj e) (by rw [lend_in h.mem]; exact h1) hl (lend_flds (fun a ha => by rw [e]; exact List.mem_cons_of_mem _ ha) (lend_sub h.out) h2)
/-- given back: what was made stays frozen, the state does not -/
theorem cut_nx (h : StAt K F H p m S) (z : Fz F H) (n : Nx T (lend F H S) H F1 H1) : Nx T F H (cut F1 S) H1 where
  f := fun a o e => by
    have ha : a ∉ S := fun q => by rw [h.out a q] at e; cases e
    rw [cut_out ha]
    exact n.f a o (lend_sub h.out a o e)
  z := ⟨fun a o e => n.z.sub a o (cut_some e).2, fun a ps e => n.z.nt a ps (cut_some e).2⟩
  h := n.h
  new := fun a o e => by
    obtain ⟨ha, e⟩ := cut_some e
    rcases n.new a o e with q | q
    · rw [lend_out ha] at q; exact .inl q
    · exact .inr q
  tab := n.tab
end
end DN
namespace DN
open PySem PySem.Spec PyProof.Rows L2
open LamX (Tabs ExtN)

/-! ### M-mode: statements -/
inductive SM where
  | nx (ρ : Rho) (m : MSt) | fin (b : Bool) (m : MSt) | rt (d : D) | ex (n : Str) | bad
def Free (G : Hp) (S : List Addr) : Prop := ∀ a ∈ S, ∀ o, G a = some o → ∃ ps, o = HO.tbl ps
structure Mg (K : PySem.W.Frag) (T : List (Addr × Str)) (F0 G F H : Hp) (σ : L2.St) (ρ : Rho) (i : Nat) (p : Addr) (m : MSt) (S : List Addr) : Prop where
  at_ : At K T F H σ ρ
  nx : Nx T F0 G F H
  no : ∀ (j : Nat) (d : D), ρ[j]? ≠ some (En.o d)
  me : ρ[i]? = some (En.z (.adr p))
  st : StAt K F H p m S
  fr : Free G S
def aftM (K : PySem.W.Frag) (T : List (Addr × Str)) (W : WX) (F0 G F : Hp) (i : Nat) (p : Addr) (Z : Ends) : SM → Prop
  | .nx ρ m => ∀ σ F' H' S, Mg K T F0 G F' H' σ ρ i p m S → Sub F F' → Z.nx σ H'
  | .fin b m => ∀ F' H' S, Nx T F0 G F' H' → StAt K F' H' p m S → Free G S → Z.rt (if b = true then .ref p else .non) H'
  | .rt d => ∀ v F' H', Nx T F0 G F' H' → Rp K F' v d → Z.rt v H'
  | .ex n => ∀ σ F' H', Nx T F0 G F' H' → W (.ref (He.ga K n)) none σ H'
  | .bad => False
section
variable {K : PySem.W.Frag} {T : List (Addr × Str)} {W : WX} {F0 G F H F1 H1 : Hp} {σ : L2.St} {ρ : Rho} {i : Nat} {p : Addr} {m : MSt} {S : List Addr} {Z : Ends}
theorem aftM.mono {r : SM} (e : Sub F F1) (h : aftM K T W F0 G F i p Z r) : aftM K T W F0 G F1 i p Z r := by
  cases r with
  | nx ρ m => exact fun σ F' H' S g s => h σ F' H' S g (e.trans s)
  | fin b m => exact h
  | rt d => exact h
  | ex n => exact h
  | bad => exact h
theorem Mg.step (g : Mg K T F0 G F H σ ρ i p m S) (n : Nx T F H F1 H1) : Mg K T F0 G F1 H1 σ ρ i p m S := ⟨g.at_.nx n, g.nx.trans n, g.no, g.me, g.st.nx n, g.fr⟩
theorem Mg.sg (g : Mg K T F0 G F H σ ρ i p m S) : Sg K T F H F H σ ρ := ⟨g.at_, Nx.refl g.at_.z, fun j d q h1 => absurd h1 (g.no j d)⟩
end
def adrOf (i : Nat) (ρ : Rho) : Option Addr := match ρ[i]? with
  | some (.z (.adr p)) => some p
  | _ => none
theorem adrOf_me {i : Nat} {ρ : Rho} {p : Addr} (h : ρ[i]? = some (En.z (.adr p))) : adrOf i ρ = some p := by
  unfold adrOf; rw [h]
def lent (i : Nat) (ρ : Rho) (m : MSt) : Rho := match adrOf i ρ with
  | some p => ρ.set i (.z (.tab (some p) m.1 m.2))
  | none => ρ
section
variable {K : PySem.W.Frag} {T : List (Addr × Str)} {W : WX} {F0 G F H F1 H1 : Hp} {σ : L2.St} {ρ : Rho} {i : Nat} {p : Addr} {m : MSt} {S : List Addr} {Z : Ends}
theorem lent_me (h : ρ[i]? = some (En.z (.adr p))) : lent i ρ m = ρ.set i (.z (.tab (some p) m.1 m.2)) := by
  unfold lent; rw [adrOf_me h]
theorem Mg.lent (g : Mg K T F0 G F H σ ρ i p m S) : At K T (lend F H S) H σ (DN.lent i ρ m) := by
  rw [lent_me g.me]
  have sb := lend_sub (H := H) g.st.out
  obtain ⟨v, h1, h2⟩ := g.at_.r.z i _ g.me
  cases h2
  have r : Rl K (lend F H S) H σ ρ := ⟨g.at_.r.len, fun j d e => let ⟨v, h1, h2⟩ := g.at_.r.z j d e; ⟨v, h1, h2.mono sb⟩, fun j d e => absurd e (g.no j d), fun j k d e q1 q2 _ h => absurd h (g.no j d)⟩
  have il : i < ρ.length := (List.getElem?_eq_some_iff.mp g.me).1
  have e : σ.set i (some (V.ref p)) = σ := by
    refine List.ext_getElem? fun j => ?_
    rw [List.getElem?_set]
    split
    · rename_i hij; subst hij
      rw [if_pos (by rw [g.at_.r.len]; exact il), h1]
    · rfl
  have := r.set (i := i) (lend_rp g.st)
  rw [e] at this
  exact ⟨lend_z g.at_.z g.st, g.at_.t, this⟩
/-- an expression evaluated with the state lent -/
theorem Mg.back (g : Mg K T F0 G F H σ ρ i p m S) (n : Nx T (lend F H S) H F1 H1) : Mg K T F0 G (cut F1 S) H1 σ ρ i p m S ∧ Nx T F H (cut F1 S) H1 := ⟨g.step (cut_nx g.st g.at_.z n), cut_nx g.st g.at_.z n⟩
end
section
variable {X : Cx} {T : List (Addr × Str)} {W : WX} {F0 G : Hp} {i : Nat}
theorem Mg.adr {K : PySem.W.Frag} {F H : Hp} {σ : L2.St} {ρ : Rho} {p q : Addr} {m m' : MSt} {S S' : List Addr} {F1 H1 : Hp} (g : Mg K T F0 G F H σ ρ i p m S) (e : ρ[i]? = some (En.z (.adr q))) : p = q := by
  rw [g.me] at e; cases e; rfl
end
end DN
namespace DN
open PySem PySem.Spec PyProof.Rows L2
open LamX (Tabs ExtN)

/-! ### the state is changed -/
def fset {α : Type} : List Str → List α → Str → α → List α
  | k :: ks, w :: ws, x, v => (if k = x then v else w) :: fset ks ws x v
  | _, ws, _, _ => ws
def fget {α : Type} : List Str → List α → Str → Option α
  | k :: ks, w :: ws, x => if k = x then some w else fget ks ws x
  | _, _, _ => none
theorem fset_len {α : Type} : ∀ (ks : List Str) (ws : List α) (x : Str) (v : α), (fset ks ws x v).length = ws.length
  | [], _, _, _ => rfl
  | _ :: _, [], _, _ => rfl
  | k :: ks, w :: ws, x, v => by
    show (fset ks ws x v).length + 1 = ws.length + 1
    rw [fset_len ks ws x v]
theorem fset_out {α : Type} : ∀ (ks : List Str) (ws : List α) (x : Str) (v : α), x ∉ ks → fset ks ws x v = ws
  | [], _, _, _, _ => rfl
  | _ :: _, [], _, _, _ => rfl
  | k :: ks, w :: ws, x, v, h => by
    show (if k = x then v else w) :: fset ks ws x v = _
    rw [if_neg fun e => h (by rw [e]; exact List.mem_cons_self), fset_out ks ws x v fun e => h (List.mem_cons_of_mem _ e)]
theorem kv_any (x : Str) : ∀ (ks : List Str) (ws : List V), ks.length = ws.length → ((kvK ks ws).any fun kv => decide (kv.1 = Sum.inr x)) = decide (x ∈ ks)
  | [], [], _ => rfl
  | k :: ks, w :: ws, h => by
    show (decide ((Sum.inr k : Key) = Sum.inr x) || (kvK ks ws).any fun kv => decide (kv.1 = Sum.inr x)) = _
    rw [kv_any x ks ws (by simpa using h)]
    by_cases e : k = x
    · subst e; simp
    · have e2 : ¬ (Sum.inr k : Key) = Sum.inr x := fun z => e (Sum.inr.inj z)
      have e3 : ¬ x = k := fun z => e z.symm
      simp [e2, e3]
theorem put_kvK {x : Str} {v : V} {ks : List Str} {ws : List V} (hl : ks.length = ws.length) (hx : x ∈ ks) : putK (kvK ks ws) (Sum.inr x) v = kvK ks (fset ks ws x v) := by
  unfold putK
  rw [if_pos (by rw [kv_any x ks ws hl]; exact decide_eq_true hx)]
  clear hx
  induction ks generalizing ws with
  | nil => cases ws <;> rfl
  | cons k ks ih =>
    cases ws with
    | nil => rfl
    | cons w ws =>
      show (if (Sum.inr k : Key) = Sum.inr x then ((Sum.inr k : Key), v) else (Sum.inr k, w)) :: (kvK ks ws).map _ = (Sum.inr k, if k = x then v else w) :: kvK ks (fset ks ws x v)
      rw [ih (by simpa using hl)]
      by_cases e : k = x
      · subst e; rw [if_pos rfl, if_pos rfl]
      · rw [if_neg fun z => e (Sum.inr.inj z), if_neg e]
section
variable {K : PySem.W.Frag} {T : List (Addr × Str)} {W : WX} {F0 G F H F1 H1 : Hp} {σ : L2.St} {ρ : Rho} {i : Nat} {p : Addr} {m m' : MSt} {S S' : List Addr} {Z : Ends}
theorem Flds.length {ws : List V} {ds : List D} (h : Flds K F H ws ds S) : ws.length = ds.length := by
  induction h with
  | nil => rfl
  | imm _ _ _ ih => rw [List.length_cons, List.length_cons, ih]
  | lst _ _ _ _ ih => rw [List.length_cons, List.length_cons, ih]
theorem Flds.setI {ws : List V} {ds : List D} {x : Str} {v : V} {d : D} (hd : d.imm = true) (r : Rp K F v d) (h : Flds K F H ws ds S) : ∀ (ks : List Str), ∃ S', S'.Sublist S ∧ Flds K F H (fset ks ws x v) (fset ks ds x d) S' := by
  induction h with
  | nil => intro ks; cases ks <;> exact ⟨[], List.Sublist.refl _, .nil⟩
  | @imm v0 d0 vs ds S e r0 h ih =>
    intro ks
    cases ks with
    | nil => exact ⟨S, List.Sublist.refl _, .imm e r0 h⟩
    | cons k ks =>
      obtain ⟨S', s1, s2⟩ := ih ks
      refine ⟨S', s1, ?_⟩
      show Flds K F H ((if k = x then v else v0) :: _) ((if k = x then d else d0) :: _) S'
      by_cases hk : k = x
      · rw [if_pos hk, if_pos hk]; exact .imm hd r s2
      · rw [if_neg hk, if_neg hk]; exact .imm e r0 s2
  | @lst a xs es vs ds S hx r0 e h ih =>
    intro ks
    cases ks with
    | nil => exact ⟨_, List.Sublist.refl _, .lst hx r0 e h⟩
    | cons k ks =>
      obtain ⟨S', s1, s2⟩ := ih ks
      show ∃ S'', List.Sublist S'' (a :: S) ∧ Flds K F H ((if k = x then v else .ref a) :: _) ((if k = x then d else .lst es) :: _) S''
      by_cases hk : k = x
      · rw [if_pos hk, if_pos hk]; exact ⟨S', s1.cons _, .imm hd r s2⟩
      · rw [if_neg hk, if_neg hk]; exact ⟨a :: S', s1.cons_cons _, .lst hx r0 e s2⟩
theorem soft_code {o : HO} {a : Addr} (h : (∃ xs, o = .lst xs) ∨ ∃ kvs, o = .dK kvs) : ∀ q, o ≠ LamX.CodeO a q := fun q z => by
  unfold LamX.CodeO at z
  rcases h with ⟨_, e⟩ | ⟨_, e⟩ <;> (rw [e] at z; cases z)
theorem Mg.put {q : Addr} {o' : HO} (g : Mg K T F0 G F H σ ρ i p m S) (hq : q ∈ S) (st : StAt K F (upd H q o') p m' S') (fr : Free G S') : Mg K T F0 G F (upd H q o') σ ρ i p m' S' := by
  obtain ⟨o, h1, h2⟩ := g.st.solid q hq
  have fq := g.st.out q hq
  have z1 : Fz F (upd H q o') := ⟨fun b u eb => by
    rw [upd_ne fun z => by rw [z, fq] at eb; cases eb]; exact g.at_.z.sub _ _ eb, g.at_.z.nt⟩
  refine ⟨⟨z1, tabs_updG g.at_.t h1 (soft_nt h2) (soft_code h2), ⟨g.at_.r.len, g.at_.r.z, fun j d e => absurd e (g.no j d), fun j k d e q1 q2 _ h => absurd h (g.no j d)⟩⟩, ⟨g.nx.f, z1, fun b u eb no => ?_, g.nx.new, fun t => tabs_updG (g.nx.tab t) h1 (soft_nt h2) (soft_code h2)⟩, g.no, g.me, st, fr⟩
  rw [upd_ne fun z => by
    subst z
    obtain ⟨ps, k⟩ := g.fr b hq u eb
    exact no ps k]
  exact g.nx.h _ _ eb no
theorem StAt.setI {x : Str} {v : V} {d : D} (h : StAt K F H p m S) (hd : d.imm = true) (r : Rp K F v d) (hx : x ∈ m.1) : ∃ ws S', H p = some (.dK (kvK m.1 ws)) ∧ m.1.length = ws.length ∧ (∀ a ∈ S', a ∈ S) ∧ StAt K F (upd H p (.dK (putK (kvK m.1 ws) (Sum.inr x) v))) p (m.1, fset m.1 m.2 x d) S' := by
  obtain ⟨ws, S0, rfl, h1, hl, h2⟩ := h.ex
  obtain ⟨S', s1, s2⟩ := h2.setI hd r (x := x) m.1
  have nd := List.nodup_cons.mp h.nd
  refine ⟨ws, p :: S', h1, hl, fun a ha => ?_, ⟨_, S', rfl, by rw [upd_same, put_kvK hl hx], by rw [fset_len]; exact hl, s2.mono (Sub.refl F) fun a ha xs e => ?_⟩, ?_, fun a ha => ?_, h.nk⟩
  · rcases List.mem_cons.mp ha with z | z
    · rw [z]; exact List.mem_cons_self
    · exact List.mem_cons_of_mem _ (s1.subset z)
  · rw [upd_ne fun z => nd.1 (by rw [← z]; exact s1.subset ha)]; exact e
  · exact List.nodup_cons.mpr ⟨fun z => nd.1 (s1.subset z), nd.2.sublist s1⟩
  · rcases List.mem_cons.mp ha with z | z
    · rw [z]; exact h.out p List.mem_cons_self
    · exact h.out a (List.mem_cons_of_mem _ (s1.subset z))
end
section
variable {X : Cx} {T : List (Addr × Str)} {W : WX} {F0 G : Hp} {i : Nat}
end
end DN
namespace DN
open PySem PySem.Spec PyProof.Rows L2
open LamX (Tabs ExtN)

/-! ### a dict of text keys is read -/
section
variable {X : Cx} {T : List (Addr × Str)} {W : WX} {F0 G : Hp} {i : Nat}
/-! ### an own list of the state is changed -/
/-- the list of the field k -/
theorem Flds.at_ {K : PySem.W.Frag} {F H : Hp} {x : Str} {ws : List V} {ds : List D} {S : List Addr} (h : Flds K F H ws ds S) : S.Nodup → ∀ (ks : List Str), ks.Nodup → ∀ {es : List D}, fget ks ds x = some (.lst es) →
    ∃ a xs, fget ks ws x = some (.ref a) ∧ a ∈ S ∧ H a = some (.lst xs) ∧ RpAll K F xs es ∧ D.imms es = true ∧
      ∀ ys fs, RpAll K F ys fs → D.imms fs = true → Flds K F (upd H a (.lst ys)) ws (fset ks ds x (.lst fs)) S := by
  induction h with
  | nil => intro _ ks _ es e; cases ks <;> cases e
  | @imm v0 d0 vs ds S hi r0 h ih =>
    intro nd ks nk es e
    cases ks with
    | nil => cases e
    | cons k ks =>
      rw [List.nodup_cons] at nk
      have e : (if k = x then some d0 else fget ks ds x) = some (.lst es) := e
      by_cases hk : k = x
      · rw [if_pos hk] at e
        cases e
        unfold D.imm at hi; cases hi
      · rw [if_neg hk] at e
        obtain ⟨a, xs, h1, h2, h3, h4, h5, h6⟩ := ih nd ks nk.2 e
        refine ⟨a, xs, ?_, h2, h3, h4, h5, fun ys fs r hf => ?_⟩
        · show (if k = x then some v0 else fget ks vs x) = _
          rw [if_neg hk]; exact h1
        · show Flds K F _ _ ((if k = x then D.lst fs else d0) :: _) S
          rw [if_neg hk]
          exact .imm hi r0 (h6 ys fs r hf)
  | @lst a xs es0 vs ds S hx r0 hi h ih =>
    intro nd ks nk es e
    have nd' := List.nodup_cons.mp nd
    cases ks with
    | nil => cases e
    | cons k ks =>
      rw [List.nodup_cons] at nk
      have e : (if k = x then some (D.lst es0) else fget ks ds x) = some (.lst es) := e
      by_cases hk : k = x
      · rw [if_pos hk] at e
        cases e
        refine ⟨a, xs, ?_, List.mem_cons_self, hx, r0, hi, fun ys fs r hf => ?_⟩
        · show (if k = x then some (V.ref a) else fget ks vs x) = _
          rw [if_pos hk]
        · show Flds K F _ _ ((if k = x then D.lst fs else D.lst es0) :: fset ks ds x (.lst fs)) (a :: S)
          rw [if_pos hk, fset_out ks ds x _ (by rw [← hk]; exact nk.1)]
          exact .lst upd_same r hf (h.mono (Sub.refl F) fun b hb zs q => by rw [upd_ne fun z => nd'.1 (by rw [← z]; exact hb)]; exact q)
      · rw [if_neg hk] at e
        obtain ⟨b, zs, h1, h2, h3, h4, h5, h6⟩ := ih nd'.2 ks nk.2 e
        refine ⟨b, zs, ?_, List.mem_cons_of_mem _ h2, h3, h4, h5, fun ys fs r hf => ?_⟩
        · show (if k = x then some (V.ref a) else fget ks vs x) = _
          rw [if_neg hk]; exact h1
        · show Flds K F _ _ ((if k = x then D.lst fs else D.lst es0) :: _) (a :: S)
          rw [if_neg hk]
          exact .lst (by rw [upd_ne fun z => nd'.1 (by rw [z]; exact h2)]; exact hx) r0 hi (h6 ys fs r hf)
theorem StAt.at_ {K : PySem.W.Frag} {F H : Hp} {p : Addr} {m : MSt} {S : List Addr} {x : Str} {es : List D} (h : StAt K F H p m S) (e : fget m.1 m.2 x = some (.lst es)) :
    ∃ ws a xs, H p = some (.dK (kvK m.1 ws)) ∧ fget m.1 ws x = some (.ref a) ∧ a ∈ S ∧ H a = some (.lst xs) ∧ RpAll K F xs es ∧ D.imms es = true ∧
      ∀ ys fs, RpAll K F ys fs → D.imms fs = true → StAt K F (upd H a (.lst ys)) p (m.1, fset m.1 m.2 x (.lst fs)) S := by
  obtain ⟨ws, S0, rfl, h1, hl, h2⟩ := h.ex
  have nd := List.nodup_cons.mp h.nd
  obtain ⟨a, xs, k1, k2, k3, k4, k5, k6⟩ := h2.at_ nd.2 m.1 h.nk e
  refine ⟨ws, a, xs, h1, k1, List.mem_cons_of_mem _ k2, k3, k4, k5, fun ys fs r hf => ⟨⟨ws, S0, rfl, ?_, hl, k6 ys fs r hf⟩, h.nd, h.out, h.nk⟩⟩
  rw [upd_ne fun z => nd.1 (by rw [z]; exact k2)]; exact h1
end
end DN
namespace DN
open PySem PySem.Spec PyProof.Rows L2
open LamX (Tabs ExtN)

/-! ### procedures and makers -/
section
variable {K : PySem.W.Frag} {T : List (Addr × Str)} {W : WX} {F0 G F H F1 H1 : Hp} {σ : L2.St} {ρ : Rho} {i : Nat} {p : Addr} {m m' : MSt} {S S' : List Addr} {Z : Ends}
end
section
variable {X : Cx} {T : List (Addr × Str)} {W : WX} {F0 G : Hp} {i : Nat}
end
/-! a def whose body goes over to M-mode: for every address p -/
section
variable {P : Program} {w : World} {K : PySem.W.Frag} {mg : Str → Option Value} {base : Heap} {T : List (Addr × Str)} {k : Nat} {x qual : Str} {params : Arguments} {body : List Stmt} {scope : Scope} {kws : List (Str × V)} {f : Addr} {fd : FuncData} {N ps : List Str} {n i : Nat} {s : Rho → Addr → SM}
end
section
variable {X : Cx} {T : List (Addr × Str)} {W : WX} {F0 H0 : Hp} {i : Nat}
end
end DN
/-! M-mode: for, update, a state made by a display or by dict(pairs); own lists by +, * and by choice -/
namespace DN
open PySem PySem.Spec PyProof.Rows L2
open LamX (Tabs ExtN)

section
variable {X : Cx} {T : List (Addr × Str)} {W : WX} {F0 G : Hp} {i : Nat}
end
/-! ### own lists by + and *, and one of two -/
section
variable {X : Cx} {T : List (Addr × Str)} {W : WX} {F0 G : Hp} {i : Nat}
end
end DN
namespace DN
open PySem PySem.Spec PyProof.Rows L2
open LamX (Tabs ExtN)
section
variable {X : Cx} {T : List (Addr × Str)} {W : WX} {F0 G : Hp} {i : Nat}
theorem aftO.mono {K : PySem.W.Frag} {σ : L2.St} {F H F1 H1 : Hp} {Q : V → Hp → Prop} {r : Res D} (n : Nx T F H F1 H1) (h : aftO K T W σ F H Q r) : aftO K T W σ F1 H1 Q r := by
  cases r with
  | ok d =>
    cases d with
    | lst ds => exact fun p vs F' H' n2 hp hx rx fr => h p vs F' H' (n.trans n2) hp hx rx (back_tbl n.h fr)
    | _ => exact h
  | ex m => exact fun F' H' n2 => h F' H' (n.trans n2)
  | bad => exact h
end
end DN
/-! M-mode: the state's update; a state made by a display -/
namespace DN
open PySem PySem.Spec PyProof.Rows L2
open LamX (Tabs ExtN)
/-! ### a field put, there or not -/
def fput (m : MSt) (k : Str) (d : D) : MSt := if k ∈ m.1 then (m.1, fset m.1 m.2 k d) else (m.1 ++ [k], m.2 ++ [d])
theorem kv_snoc {x : Str} {v : V} : ∀ {ks : List Str} {ws : List V}, ks.length = ws.length → kvK (ks ++ [x]) (ws ++ [v]) = kvK ks ws ++ [(Sum.inr x, v)]
  | [], [], _ => rfl
  | k :: ks, w :: ws, h => by
    show (Sum.inr k, w) :: kvK (ks ++ [x]) (ws ++ [v]) = (Sum.inr k, w) :: (kvK ks ws ++ [(Sum.inr x, v)])
    rw [kv_snoc (by simpa using h)]
theorem put_kvN {x : Str} {v : V} {ks : List Str} {ws : List V} (hl : ks.length = ws.length) (hx : x ∉ ks) : putK (kvK ks ws) (Sum.inr x) v = kvK (ks ++ [x]) (ws ++ [v]) := by
  unfold putK
  rw [if_neg (by rw [kv_any x ks ws hl]; simpa using hx), kv_snoc hl]
section
variable {K : PySem.W.Frag} {T : List (Addr × Str)} {W : WX} {F0 G F H F1 H1 : Hp} {σ : L2.St} {ρ : Rho} {i : Nat} {p : Addr} {m m' : MSt} {S S' : List Addr} {Z : Ends}
theorem Flds.snoc {ws : List V} {ds : List D} {v : V} {d : D} (hd : d.imm = true) (r : Rp K F v d) (h : Flds K F H ws ds S) : Flds K F H (ws ++ [v]) (ds ++ [d]) S := by
  induction h with
  | nil => exact .imm hd r .nil
  | imm e r0 _ ih => exact .imm e r0 ih
  | lst hx r0 e _ ih => exact .lst hx r0 e ih
theorem StAt.kvs (h : StAt K F H p m S) : ∃ ws, H p = some (.dK (kvK m.1 ws)) ∧ m.1.length = ws.length := by
  obtain ⟨ws, S0, _, h1, hl, _⟩ := h.ex
  exact ⟨ws, h1, hl⟩
theorem StAt.put1 {x : Str} {v : V} {d : D} {kvs : List (Key × V)} (h : StAt K F H p m S) (hk : H p = some (.dK kvs)) (hd : d.imm = true) (r : Rp K F v d) : ∃ S', (∀ a ∈ S', a ∈ S) ∧ StAt K F (upd H p (.dK (putK kvs (Sum.inr x) v))) p (fput m x d) S' := by
  unfold fput
  by_cases hx : x ∈ m.1
  · rw [if_pos hx]
    obtain ⟨ws, S', h1, hl, h2, h3⟩ := h.setI hd r hx
    rw [hk] at h1
    cases h1
    exact ⟨S', h2, h3⟩
  · rw [if_neg hx]
    obtain ⟨ws, S0, rfl, h1, hl, h2⟩ := h.ex
    rw [hk] at h1
    cases h1
    have nd := List.nodup_cons.mp h.nd
    refine ⟨p :: S0, fun a ha => ha, ⟨_, S0, rfl, by rw [upd_same, put_kvN hl hx], by rw [List.length_append, List.length_append, hl]; rfl, (h2.snoc hd r).mono (Sub.refl F) fun a ha xs e => ?_⟩, h.nd, h.out, ?_⟩
    · rw [upd_ne fun z => nd.1 (by rw [← z]; exact ha)]; exact e
    · show (m.1 ++ [x]).Nodup
      rw [List.nodup_append]
      refine ⟨h.nk, by simp, fun a ha b hb z => ?_⟩
      simp at hb
      subst hb; subst z
      exact hx ha
end
section
variable {X : Cx} {T : List (Addr × Str)} {W : WX} {F0 G : Hp} {i : Nat}
end
/-! ### a state made by a display -/
section
variable {X : Cx} {T : List (Addr × Str)} {W : WX} {F0 G : Hp} {i : Nat}
end
end DN
/-! list(zip(a, b)): every pair that was handed out is still held by the list -/
namespace DN
open PySem PySem.Spec PyProof.Rows L2
open LamX (Tabs ExtN)
namespace LZ
/-- a zip whose pair T is out -/
abbrev Out (h : Heap) (z TI TO T : Addr) (f : Bool) : Prop := h.get? z = some { cls := .type "zip", data := .fields #[rawInt T, .bool f, .bool false, .ref TI, .ref TO] }
section
variable {prog : Program} {w : World} {A : Around} {E : Value → Shared → Prop} {s : Shared} {z TI TO i1 i2 T : Addr} {fp1 fp2 : List Addr} {n1 n2 i : Nat} {P1 P2 : Nat → Value → Prop} {St1 St2 : Nat → Heap → Prop} {a1 a2 : Value} {f : Bool}
/-- the zip's look at its own pair: it is held elsewhere, and the zip marks that -/
theorem own_out {Q : Bool → Shared → Prop} (hz : Out s.heap z TI TO T f) (hT : ∃ o, s.heap.get? T = some o)
    (hQ : ∀ h', Out h' z TI TO T true → Heap.SameBut z s.heap h' → Q false { s with heap := h' }) : wpAny (model prog w) A (Builtin.SmallTypes.ownedTupleIsFree (.ref z)) Q E s :=
  hT.elim fun _ t => PySem.wpAny_tupleHeld_zip hz t hQ
theorem body_out {Q : PySem.Fin → Shared → Prop} (S : ZipSep2 z TI TO i1 i2 fp1 fp2) (D1 : Draws prog w A i1 fp1 n1 P1 St1) (D2 : Draws prog w A i2 fp2 n2 P2 St2) (hz : Out s.heap z TI TO T f) (hT : ∃ o, s.heap.get? T = some o) (hI : IsTupOf2 s.heap TI (.ref i1) (.ref i2)) (st1 : St1 i s.heap) (st2 : St2 i s.heap) (l1 : i < n1) (l2 : i < n2)
    (hQ : ∀ x1 x2 h' tk, P1 i x1 → P2 i x2 → Out h' z TI TO T true → St1 (i + 1) h' → St2 (i + 1) h' → IsTupOf2 h' s.heap.objs.size x1 x2 → (∀ c o, c ≠ z → c ≠ i1 → c ≠ i2 → s.heap.get? c = some o → h'.get? c = some o) → Q (.done (.ret (.ref s.heap.objs.size))) { s with heap := h', toks := tk }) :
    wpAny (model prog w) A (Builtin.«zip.__next__» ⟨[.ref z], []⟩) Q E s := by
  have f2 : ∀ {R : Value → Shared → Prop}, R (.bool false) s → wpAny (model prog w) A (field (.ref z) 2) R E s := fun q => wpAny_field hz rfl rfl q
  have f3 : ∀ {R : Value → Shared → Prop}, R (.ref TI) s → wpAny (model prog w) A (field (.ref z) 3) R E s := fun q => wpAny_field hz rfl rfl q
  unfold Builtin.«zip.__next__»
  wp_walk using f2, f3, wpAny_seqItems hI rfl, own_out hz hT
  intro g0 hz0 b0
  have k1 := D1.over st1 b0 S.zf1
  have k2 := D2.over st2 b0 S.zf2
  have d1 : ∀ {R : Value → Shared → Prop}, (∀ x h' tk, P1 i x → St1 (i + 1) h' → Heap.SameBut i1 g0 h' → R x { s with heap := h', toks := tk }) → wpAny (model prog w) A (Builtin.SmallTypes.nextOf (.ref i1)) R E { s with heap := g0 } := fun k => D1.item i { s with heap := g0 } _ E l1 k1 k
  have d2 : ∀ {R : Value → Shared → Prop} (h : Heap) (tk : Nat), St2 i h → (∀ x h' tk, P2 i x → St2 (i + 1) h' → Heap.SameBut i2 h h' → R x { s with heap := h', toks := tk }) → wpAny (model prog w) A (Builtin.SmallTypes.nextOf (.ref i2)) R E { s with heap := h, toks := tk } :=
    fun h tk k2 k => D2.item i { s with heap := h, toks := tk } _ E l2 k2 k
  simp only [Bool.false_eq_true, if_false, ← Array.forIn_toList, List.forIn_cons, List.forIn_nil]
  wp_walk using d1
  intro x1 g1 t1 y1 m1 b1
  wp_walk using d2 g1 t1 (D2.over k2 b1 S.sep1_2)
  intro x2 g2 t2 y2 m2 b2
  wp_walk using wpAny_newTuple
  case hsz => exact (by decide : 2 ≤ sizeLine)
  have size : g2.objs.size = s.heap.objs.size := b2.1.trans (b1.1.trans b0.1)
  have still : ∀ c o, c ≠ i1 → c ≠ i2 → g0.get? c = some o → (g2.push { cls := .type "tuple", data := .seq #[x1, x2] }).get? c = some o := fun c o c1 c2 e => Heap.get?_push_of_some _ (b2.extBut _ _ c2 (b1.extBut _ _ c1 e))
  have made := Heap.get?_push_size g2 (o := { cls := .type "tuple", data := .seq #[x1, x2] }) rfl
  show Q (.done (.ret (.ref g2.objs.size))) _
  rw [size] at made ⊢
  exact hQ x1 x2 _ t2 y1 y2 (still _ _ S.zi1 S.zi2 hz0) (D1.frame _ _ _ (D1.over m1 b2 S.sep2_1) fun _ _ _ => Heap.get?_push_of_some _) (D2.frame _ _ _ m2 fun _ _ _ => Heap.get?_push_of_some _) made fun c o c0 c1 c2 e => still c o c1 c2 (b0.extBut _ _ c0 e)
/-- one more pair -/
theorem next_out {Q : Option Value → Shared → Prop} (S : ZipSep2 z TI TO i1 i2 fp1 fp2) (D1 : Draws prog w A.in1 i1 fp1 n1 P1 St1) (D2 : Draws prog w A.in1 i2 fp2 n2 P2 St2) (hz : Out s.heap z TI TO T f) (hT : ∃ o, s.heap.get? T = some o) (hI : IsTupOf2 s.heap TI (.ref i1) (.ref i2)) (st1 : St1 i s.heap) (st2 : St2 i s.heap) (l1 : i < n1) (l2 : i < n2)
    (hQ : ∀ x1 x2 h' tk, P1 i x1 → P2 i x2 → Out h' z TI TO T true → St1 (i + 1) h' → St2 (i + 1) h' → IsTupOf2 h' s.heap.objs.size x1 x2 → (∀ c o, c ≠ z → c ≠ i1 → c ≠ i2 → s.heap.get? c = some o → h'.get? c = some o) → Q (some (.ref s.heap.objs.size)) { s with heap := h', toks := tk }) :
    wpAny (model prog w) A (pyNext (.ref z)) Q E s := by
  have ty : s.TypeIs (.ref z) "zip" := ⟨_, hz, rfl⟩
  unfold pyNext
  refine wpAny_bind (wpAny_attempt (wpAny_callSpecial?_slot (name := Str.ofString "__next__") ty F.slot_zip_next (wpAny_call_entry F.slot_zip_next ty F.entry_zip_next
    (body_out S D1 D2 hz hT hI st1 st2 l1 l2 fun x1 x2 h' tk p1 p2 o m1 m2 t k => ⟨_, rfl, wpAny_pure (hQ x1 x2 h' tk p1 p2 o m1 m2 t k)⟩) (F.args_zip_next_1 _))))
/-- one of the two is at its end: the zip hands its end on -/
theorem body_end {Q : PySem.Fin → Shared → Prop} (S : ZipSep2 z TI TO i1 i2 fp1 fp2) (D1 : Draws prog w A i1 fp1 n1 P1 St1) (D2 : Draws prog w A i2 fp2 n2 P2 St2) (hz : Out s.heap z TI TO T f) (hT : ∃ o, s.heap.get? T = some o) (hI : IsTupOf2 s.heap TI (.ref i1) (.ref i2)) (st1 : St1 i s.heap) (st2 : St2 i s.heap) (l1 : i ≤ n1) (l2 : i ≤ n2) (le : i = n1 ∨ i = n2)
    (hE : ∀ (e : Addr) h' tk, (∃ o, h'.get? e = some o ∧ o.cls = .type "StopIteration") → (∀ c o, c ≠ z → c ≠ i1 → c ≠ i2 → s.heap.get? c = some o → h'.get? c = some o) → E (.ref e) { s with heap := h', toks := tk }) :
    wpAny (model prog w) A (Builtin.«zip.__next__» ⟨[.ref z], []⟩) Q E s := by
  have f2 : ∀ {R : Value → Shared → Prop}, R (.bool false) s → wpAny (model prog w) A (field (.ref z) 2) R E s := fun q => wpAny_field hz rfl rfl q
  have f3 : ∀ {R : Value → Shared → Prop}, R (.ref TI) s → wpAny (model prog w) A (field (.ref z) 3) R E s := fun q => wpAny_field hz rfl rfl q
  unfold Builtin.«zip.__next__»
  wp_walk using f2, f3, wpAny_seqItems hI rfl, own_out hz hT
  intro g0 hz0 b0
  have k1 := D1.over st1 b0 S.zf1
  have k2 := D2.over st2 b0 S.zf2
  simp only [Bool.false_eq_true, if_false, ← Array.forIn_toList, List.forIn_cons, List.forIn_nil]
  by_cases last : i = n1
  · have d1 : ∀ {R : Value → Shared → Prop}, wpAny (model prog w) A (Builtin.SmallTypes.nextOf (.ref i1)) R E { s with heap := g0 } :=
      fun {R} => D1.done { s with heap := g0 } R E (last ▸ k1) fun h' e b x => hE e h' s.toks x fun c o c0 c1 _ y => b _ _ c1 (b0.extBut _ _ c0 y)
    wp_walk using d1
  · have d1 : ∀ {R : Value → Shared → Prop}, (∀ x h' tk, P1 i x → St1 (i + 1) h' → Heap.SameBut i1 g0 h' → R x { s with heap := h', toks := tk }) → wpAny (model prog w) A (Builtin.SmallTypes.nextOf (.ref i1)) R E { s with heap := g0 } :=
      fun k => D1.item i { s with heap := g0 } _ E (by omega) k1 k
    wp_walk using d1
    intro x1 g1 t1 y1 m1 b1
    have d2 : ∀ {R : Value → Shared → Prop}, wpAny (model prog w) A (Builtin.SmallTypes.nextOf (.ref i2)) R E { s with heap := g1, toks := t1 } :=
      fun {R} => D2.done { s with heap := g1, toks := t1 } R E (le.resolve_left last ▸ D2.over k2 b1 S.sep1_2) fun h' e b x => hE e h' t1 x fun c o c0 c1 c2 y => b _ _ c2 (b1.extBut _ _ c1 (b0.extBut _ _ c0 y))
    wp_walk using d2
theorem end_out {Q : Option Value → Shared → Prop} (S : ZipSep2 z TI TO i1 i2 fp1 fp2) (D1 : Draws prog w A.in1 i1 fp1 n1 P1 St1) (D2 : Draws prog w A.in1 i2 fp2 n2 P2 St2) (hz : Out s.heap z TI TO T f) (hT : ∃ o, s.heap.get? T = some o) (hI : IsTupOf2 s.heap TI (.ref i1) (.ref i2)) (st1 : St1 i s.heap) (st2 : St2 i s.heap) (l1 : i ≤ n1) (l2 : i ≤ n2) (le : i = n1 ∨ i = n2)
    (hQ : ∀ h' tk, (∀ c o, c ≠ z → c ≠ i1 → c ≠ i2 → s.heap.get? c = some o → h'.get? c = some o) → Q none { s with heap := h', toks := tk }) :
    wpAny (model prog w) A (pyNext (.ref z)) Q E s := by
  have ty : s.TypeIs (.ref z) "zip" := ⟨_, hz, rfl⟩
  unfold pyNext
  refine wpAny_bind (wpAny_attempt (wpAny_callSpecial?_slot (name := Str.ofString "__next__") ty F.slot_zip_next (wpAny_call_entry F.slot_zip_next ty F.entry_zip_next
    (body_end S D1 D2 hz hT hI st1 st2 l1 l2 le fun e h' tk ⟨o, ho, hc⟩ k => ?_) (F.args_zip_next_1 _))))
  exact wpAny_bind (wpAny_isInstance (T := "StopIteration") (b := true) ⟨o, ho, hc⟩ isSubtype_stop (wpAny_pure (hQ h' tk k)))
/-- behind i pairs, which stand at as -/
structure At (z TI TO i1 i2 lo : Addr) (P1 P2 : Nat → Value → Prop) (St1 St2 : Nat → Heap → Prop) (h : Heap) (i : Nat) (as : List Addr) : Prop where
  own : (i = 0 ∧ IsZip h z TI TO .none ∧ ∃ a b, IsTupOf2 h TO a b) ∨ ∃ T f, Out h z TI TO T f ∧ T ∈ as
  ti : IsTupOf2 h TI (.ref i1) (.ref i2)
  s1 : St1 i h
  s2 : St2 i h
  len : as.length = i
  up : as.Pairwise (· < ·)
  lo_le : lo ≤ h.objs.size
  new : ∀ a ∈ as, lo ≤ a
  two : ∀ j a, as[j]? = some a → ∃ x y, IsTupOf2 h a x y ∧ P1 j x ∧ P2 j y
/-- how the cells lie -/
structure Far (z TI TO i1 i2 lo L : Addr) (fp1 fp2 : List Addr) : Prop where
  sep : ZipSep2 z TI TO i1 i2 fp1 fp2
  hz : z < lo
  hti : TI < lo
  hto : TO < lo
  ha : i1 < lo
  hb : i2 < lo
  hl : L < lo
  lz : L ≠ z
  lt : L ≠ TI
  lo_ : L ≠ TO
  l1 : L ∉ fp1
  l2 : L ∉ fp2
theorem At.grow {lo L : Addr} {h h1 h2 : Heap} {as : List Addr} {x y : Value} {T' : Addr} {f' : Bool} (fr : Far z TI TO i1 i2 lo L fp1 fp2) (D1 : Draws prog w A i1 fp1 n1 P1 St1) (D2 : Draws prog w A i2 fp2 n2 P2 St2) (g : At z TI TO i1 i2 lo P1 P2 St1 St2 h i as)
    (k1 : ∀ c o, c ≠ z → c ≠ TO → c ≠ i1 → c ≠ i2 → h.get? c = some o → h1.get? c = some o) (t : IsTupOf2 h1 h.objs.size x y) (o1 : Out h1 z TI TO T' f') (hT' : T' ∈ as ++ [h.objs.size]) (m1 : St1 (i + 1) h1) (m2 : St2 (i + 1) h1) (p1 : P1 i x) (p2 : P2 i y)
    (k2 : ∀ c o, c ≠ L → h1.get? c = some o → h2.get? c = some o) (sz : h1.objs.size ≤ h2.objs.size) : At z TI TO i1 i2 lo P1 P2 St1 St2 h2 (i + 1) (as ++ [h.objs.size]) := by
  have far : ∀ c, lo ≤ c → c ≠ z ∧ c ≠ TO ∧ c ≠ i1 ∧ c ≠ i2 ∧ c ≠ L := fun c hc => ⟨Nat.ne_of_gt (Nat.lt_of_lt_of_le fr.hz hc), Nat.ne_of_gt (Nat.lt_of_lt_of_le fr.hto hc), Nat.ne_of_gt (Nat.lt_of_lt_of_le fr.ha hc), Nat.ne_of_gt (Nat.lt_of_lt_of_le fr.hb hc), Nat.ne_of_gt (Nat.lt_of_lt_of_le fr.hl hc)⟩
  have t2 : IsTupOf2 h2 h.objs.size x y := k2 _ _ (far _ g.lo_le).2.2.2.2 t
  refine ⟨.inr ⟨T', f', k2 _ _ fr.lz.symm o1, hT'⟩, k2 _ _ fr.lt.symm (k1 _ _ fr.sep.TIz fr.sep.TITO fr.sep.TIi1 fr.sep.TIi2 g.ti), D1.frame _ _ _ m1 fun b hb o e => k2 b o (fun q => fr.l1 (q ▸ hb)) e, D2.frame _ _ _ m2 fun b hb o e => k2 b o (fun q => fr.l2 (q ▸ hb)) e, by rw [List.length_append, g.len]; rfl, ?_, ?_, fun a ha => ?_, fun j a hj => ?_⟩
  · refine List.pairwise_append.mpr ⟨g.up, by simp, fun a ha b hb => ?_⟩
    simp at hb
    subst hb
    obtain ⟨j, hj⟩ := List.mem_iff_getElem?.mp ha
    obtain ⟨x, y, q, _⟩ := g.two j a hj
    exact Heap.lt_size q
  · exact Nat.le_trans (Nat.le_of_lt (Nat.lt_of_le_of_lt g.lo_le (Heap.lt_size t))) sz
  · rcases List.mem_append.mp ha with q | q
    · exact g.new a q
    · simp at q; subst q; exact g.lo_le
  · rw [List.getElem?_append] at hj
    split at hj
    · obtain ⟨x', y', q, r⟩ := g.two j a hj
      obtain ⟨c1, c2, c3, c4, c5⟩ := far a (g.new a (List.mem_of_getElem? hj))
      exact ⟨x', y', k2 _ _ c5 (k1 _ _ c1 c2 c3 c4 q), r⟩
    · rename_i hge
      rw [g.len] at hge hj
      have hji : j = i := by
        have := (List.getElem?_eq_some_iff.mp hj).1
        simp at this
        omega
      subst hji
      rw [Nat.sub_self] at hj
      cases hj
      exact ⟨x, y, t2, p1, p2⟩
abbrev lst (xs : List Value) (c : Nat) : Obj := { cls := .type "list", dict := none, data := .seq xs.toArray c, slots := #[] }
theorem loop {R : Result → Shared → Prop} {lo L : Addr} {res : Value} (fr : Far z TI TO i1 i2 lo L fp1 fp2) (D1 : Draws prog w A.in1.in1 i1 fp1 n1 P1 St1) (D2 : Draws prog w A.in1.in1 i2 fp2 n2 P2 St2) (hn : min n1 n2 ≤ sizeLine) :
    ∀ (k i : Nat) (s : Shared) (as : List Addr) (c : Nat), i + k = min n1 n2 → At z TI TO i1 i2 lo P1 P2 St1 St2 s.heap i as → s.heap.get? L = some (lst (as.map .ref) c) →
      (∀ (h' : Heap) (tk : Nat) (bs : List Addr) (c' : Nat), (∀ b o, b < lo → b ≠ z → b ≠ TO → b ≠ i1 → b ≠ i2 → b ≠ L → s.heap.get? b = some o → h'.get? b = some o) → h'.get? L = some (lst (bs.map .ref) c') → bs.length = min n1 n2 → bs.Pairwise (· < ·) → (∀ a ∈ bs, lo ≤ a) →
        (∀ j a, bs[j]? = some a → ∃ x y, IsTupOf2 h' a x y ∧ P1 j x ∧ P2 j y) → R (.ok (.ret res)) { s with heap := h', toks := tk }) →
      codeAny (model prog w) A (.builtin "list.extend.loop" ⟨[.ref L, .ref z, res], []⟩) R s := by
  intro k
  induction k with
  | zero =>
    intro i s as c hk g hL hR
    refine codeAny_builtin F.entry_extend_loop ?_
    rw [Around.under_plainId F.plain_extend_loop _]
    show wpAny _ A.in1 (pyNext (.ref z) >>= _) _ _ s
    have le : i = n1 ∨ i = n2 := by omega
    have fin : ∀ h' tk, (∀ c o, c ≠ z → c ≠ TO → c ≠ i1 → c ≠ i2 → s.heap.get? c = some o → h'.get? c = some o) → R (.ok (.ret res)) { s with heap := h', toks := tk } := fun h' tk kp => by
      refine hR h' tk as c (fun b o _ c1 c2 c3 c4 _ e => kp b o c1 c2 c3 c4 e) (kp _ _ fr.lz fr.lo_ (fun q => fr.l1 (q ▸ fr.sep.mem1)) (fun q => fr.l2 (q ▸ fr.sep.mem2)) hL) (by rw [g.len]; exact hk) g.up g.new fun j a hj => ?_
      obtain ⟨x, y, q, r⟩ := g.two j a hj
      have la := g.new a (List.mem_of_getElem? hj)
      exact ⟨x, y, kp _ _ (Nat.ne_of_gt (Nat.lt_of_lt_of_le fr.hz la)) (Nat.ne_of_gt (Nat.lt_of_lt_of_le fr.hto la)) (Nat.ne_of_gt (Nat.lt_of_lt_of_le fr.ha la)) (Nat.ne_of_gt (Nat.lt_of_lt_of_le fr.hb la)) q, r⟩
    rcases g.own with ⟨_, hz, a, b, ho⟩ | ⟨T, f, hz, hT⟩
    · exact wpAny_bind (wpAny_pyNext_zipD2_end fr.sep D1 D2 hz g.ti ho g.s1 g.s2 (by omega) (by omega) le fun h' tk kp => wpAny_pure (fin h' tk kp))
    · obtain ⟨j, hj⟩ := List.mem_iff_getElem?.mp hT
      obtain ⟨x, y, q, _⟩ := g.two j T hj
      exact wpAny_bind (end_out fr.sep D1 D2 hz ⟨_, q⟩ g.ti g.s1 g.s2 (by omega) (by omega) le fun h' tk kp => wpAny_pure (fin h' tk fun c o c1 _ c3 c4 e => kp c o c1 c3 c4 e))
  | succ k ih =>
    intro i s as c hk g hL hR
    refine codeAny_builtin F.entry_extend_loop ?_
    rw [Around.under_plainId F.plain_extend_loop _]
    show wpAny _ A.in1 (pyNext (.ref z) >>= _) _ _ s
    have go : ∀ (x y : Value) (h1 : Heap) (tk : Nat) (T' : Addr) (f' : Bool), P1 i x → P2 i y → Out h1 z TI TO T' f' → T' ∈ as ++ [s.heap.objs.size] → St1 (i + 1) h1 → St2 (i + 1) h1 → IsTupOf2 h1 s.heap.objs.size x y → (∀ c o, c ≠ z → c ≠ TO → c ≠ i1 → c ≠ i2 → s.heap.get? c = some o → h1.get? c = some o) →
        wpAny (model prog w) A.in1 (updateSeq L (·.push (.ref s.heap.objs.size)) >>= fun _ => again (.builtin "list.extend.loop" ⟨[.ref L, .ref z, res], []⟩))
          (fun fin s' => match fin with | .done f => R (.ok f) s' | .again c' => c'.quiet = true ∧ codeAny (model prog w) A c' R s') (fun e s' => R (.error e) s') { s with heap := h1, toks := tk } := fun x y h1 tk T' f' p1 p2 o1 hT' m1 m2 t kp => by
      have hL1 : h1.get? L = some (lst (as.map .ref) c) := kp _ _ fr.lz fr.lo_ (fun q => fr.l1 (q ▸ fr.sep.mem1)) (fun q => fr.l2 (q ▸ fr.sep.mem2)) hL
      have la : (as.map Value.ref).toArray.size = i := by rw [List.size_toArray, List.length_map, g.len]
      have g2 := g.grow (h2 := h1.update L (Obj.mapSeq (·.push (.ref s.heap.objs.size)))) fr D1 D2 kp t o1 hT' m1 m2 p1 p2 (fun c o hc e => (Heap.get?_update_other _ _ (Ne.symm hc)).trans e) (Nat.le_of_eq (Heap.SameBut.update ..).1.symm)
      refine wpAny_bind (wpAny_updateSeq hL1 rfl (wpAny_pure ⟨plainId_quiet F.plain_extend_loop _, ih (i + 1) _ (as ++ [s.heap.objs.size]) (c + 1) (by omega) g2 ?_ fun h' tk' bs c' q1 q2 q3 q4 q5 q6 => ?_⟩) (by rw [la]; omega) (by rw [Array.size_push, la]; omega))
      · have := Heap.get?_update_self (Obj.mapSeq (·.push (Value.ref s.heap.objs.size))) hL1 rfl
        rw [this]
        simp [Obj.mapSeq]
      · refine hR h' tk' bs c' (fun b o b0 b1 b2 b3 b4 b5 e => q1 b o b0 b1 b2 b3 b4 b5 ((Heap.get?_update_other _ _ (Ne.symm b5)).trans (kp b o b1 b2 b3 b4 e))) q2 q3 q4 q5 q6
    rcases g.own with ⟨i0, hz, a, b, ho⟩ | ⟨T, f, hz, hT⟩
    · exact wpAny_bind (wpAny_pyNext_zipD2_item fr.sep D1 D2 hz g.ti ho g.s1 g.s2 (by omega) (by omega) fun x y h1 tk p1 p2 o1 _ m1 m2 t _ kp => go x y h1 tk _ false p1 p2 o1 (by simp) m1 m2 t kp)
    · obtain ⟨j, hj⟩ := List.mem_iff_getElem?.mp hT
      obtain ⟨x, y, q, _⟩ := g.two j T hj
      exact wpAny_bind (next_out fr.sep D1 D2 hz ⟨_, q⟩ g.ti g.s1 g.s2 (by omega) (by omega) fun x y h1 tk p1 p2 o1 m1 m2 t kp => go x y h1 tk _ true p1 p2 o1 (List.mem_append_left _ hT) m1 m2 t fun c o c1 _ c3 c4 e => kp c o c1 c3 c4 e)
/-- a list's cell is written twice and stands as before -/
theorem touch {L : Addr} {xs : List Value} {c : Nat} {Q : Unit → Shared → Prop} (hL : s.heap.get? L = some (lst xs c)) (hx : xs.length + 1 ≤ sizeLine) (hQ : ∀ h' c', h'.get? L = some (lst xs c') → Heap.SameBut L s.heap h' → Q () { s with heap := h' }) : wpAny (model prog w) A (Builtin.List.listTouch (.ref L)) Q E s := by
  show wpAny _ _ (updateSeq L (·.push .none) >>= fun _ => updateSeq L (·.pop)) _ _ s
  refine wpAny_bind (wpAny_updateSeq hL rfl ?_ (by rw [List.size_toArray]; omega) (by rw [Array.size_push, List.size_toArray]; omega))
  have h1 := Heap.get?_update_self (Obj.mapSeq (·.push Value.none)) hL rfl
  have e1 : Obj.mapSeq (·.push Value.none) (lst xs c) = lst (xs ++ [.none]) (c + 1) := by simp [Obj.mapSeq]
  rw [e1] at h1
  refine wpAny_updateSeq h1 rfl (hQ _ (c + 2) ?_ ⟨(Heap.SameBut.update ..).1.trans (Heap.SameBut.update ..).1, fun b hb => ?_⟩) (by rw [List.size_toArray, List.length_append]; simp; omega) (by rw [Array.size_pop, List.size_toArray, List.length_append]; simp; omega)
  · rw [Heap.get?_update_self (Obj.mapSeq (·.pop)) h1 rfl]
    simp [Obj.mapSeq]
  · rw [Heap.get?_update_other _ _ (Ne.symm hb), Heap.get?_update_other _ _ (Ne.symm hb)]
end
end LZ
end DN
/-! list(zip(a, b)) and dict(pairs) by data -/
namespace DN
open PySem PySem.Spec PyProof.Rows L2
open LamX (Tabs ExtN)
section
variable {X : Cx} {T : List (Addr × Str)} {W : WX}
def Pr (H : Hp) : List Addr → List (V × V) → Prop := Paired fun t q => H t = some (.tup [q.1, q.2])
end
/-! ### by data -/
theorem Nx.many {T : List (Addr × Str)} {F H H' : Hp} {N : List Addr} (z : Fz F H) (kp : ∀ b o, H b = some o → H' b = some o) (hn : ∀ a ∈ N, H a = none) (hs : ∀ a ∈ N, ∃ o, H' a = some o ∧ ∀ ps, o ≠ .tbl ps) : Nx T F H (fun a => if a ∈ N then H' a else F a) H' := by
  refine ⟨fun a o e => ?_, ⟨fun a o e => ?_, fun a ps e => ?_⟩, fun b u e _ => kp b u e, fun a o e => ?_, fun t => t.ext fun b u e => kp b u e⟩
  · have : a ∉ N := fun q => by have := z.sub _ _ e; rw [hn a q] at this; cases this
    show (if a ∈ N then H' a else F a) = some o
    rw [if_neg this]; exact e
  · have e : (if a ∈ N then H' a else F a) = some o := e
    split at e
    · exact e
    · exact kp _ _ (z.sub _ _ e)
  · have e : (if a ∈ N then H' a else F a) = some (.tbl ps) := e
    split at e
    · rename_i q
      obtain ⟨o, h1, h2⟩ := hs a q
      rw [h1] at e
      exact h2 ps (Option.some.inj e)
    · exact z.nt _ _ e
  · have e : (if a ∈ N then H' a else F a) = some o := e
    split at e
    · rename_i q
      exact .inr fun o' e' => by rw [hn a q] at e'; cases e'
    · exact .inl e
theorem Pr.all {H' : Hp} : ∀ {ts : List Addr} {qs : List (V × V)}, Pr H' ts qs → ∀ t ∈ ts, ∃ vs, H' t = some (.tup vs)
  | _, _, .nil, t, h => by cases h
  | _, _, .cons h1 h2, t, h => by
    rcases List.mem_cons.mp h with e | e
    · rw [e]; exact ⟨_, h1⟩
    · exact Pr.all h2 t e
section
variable {X : Cx} {T : List (Addr × Str)} {W : WX} {F0 G : Hp} {i : Nat}
end
/-! ### dict(pairs) -/
section
variable {X : Cx} {T : List (Addr × Str)} {W : WX} {F0 G : Hp} {i : Nat}
end
end DN
/-! M-mode where a token is out -/
namespace DN
open PySem PySem.Spec PyProof.Rows L2
open LamX (Tabs ExtN)
section
variable {X : Cx} {T : List (Addr × Str)} {W : WX} {F0 G : Hp} {i : Nat}
end
/-! x = e (lent), then f(state, .. x ..) -/
section
variable {X : Cx} {T : List (Addr × Str)} {W : WX} {F0 G : Hp} {i : Nat}
end
end DN
/-! a law whose body goes over to M-mode; evaluating M-mode -/
namespace DN
open PySem PySem.Spec PyProof.Rows L2
open LamX (Tabs ExtN)
/-! ### evaluating -/
section
variable {i n : Nat} {ρ : Rho} {m : MSt} {p : Addr}
end
end DN
/-! a tuple taken once, or not at all -/
namespace DN
open PySem PySem.Spec PyProof.Rows L2
open LamX (Tabs ExtN)
section
variable {X : Cx} {T : List (Addr × Str)} {W : WX}
end
end DN
/-! enumerate of a tuple -/
namespace DN
open PySem PySem.Spec PyProof.Rows L2
/-! .. as data -/
open LamX (Tabs ExtN)
section
variable {X : Cx} {T : List (Addr × Str)} {W : WX}
end
end DN
/-! a lambda with one parameter, handed to a def: within the call it belongs to the base -/
namespace DN
open PySem PySem.Spec PyProof.Rows L2
open LamX (Tabs ExtN CodeO TabB)
open NdefX (NF NScope CellsAt Caps envF ncx startF)

/-! ### a part of a heap -/
open Classical in
noncomputable def only (h : Heap) (S : Addr → Prop) : Heap := ⟨h.objs.mapIdx fun i o => if S i then o else { o with data := .freed }, h.life⟩
/-! ### less is frozen -/
def Most (F G : Hp) : Prop := ∀ a o, F a = some o → (∀ φ, o ≠ .ext φ) → G a = some o
theorem Most.rd {F G : Hp} (m : Most F G) {a : Addr} {u : HO} (hu : ∀ φ, u ≠ .ext φ) (h : Rd F a u) : Rd G a u := by
  rcases h with h | ⟨o, h⟩
  · exact .inl (m _ _ h hu)
  · exact .inr ⟨o, m _ _ h fun φ z => by cases z⟩
mutual
theorem Rp.less {K : PySem.W.Frag} {F G : Hp} (m : Most F G) : ∀ {v : V} {d : D}, Rp K F v d → Rp K G v d
  | _, _, .non => .non
  | _, _, .bl b => .bl b
  | _, _, .int i => .int i
  | _, _, .str x => .str x
  | _, _, .fn x => .fn x
  | _, _, .ty n => .ty n
  | _, _, .lst h t => .lst (m _ _ h fun φ z => by cases z) (RpAll.less m t)
  | _, _, .tup h t => .tup (h.elim (fun h => .inl (m.rd (fun φ z => by cases z) h)) .inr) (RpAll.less m t)
  | _, _, .dK h => .dK (m _ _ h fun φ z => by cases z)
  | _, _, .dT ⟨od, h⟩ => .dT ⟨od, m _ _ h fun φ z => by cases z⟩
  | _, _, .arr h => .arr (h.elim (fun h => .inl (m.rd (fun φ z => by cases z) h)) .inr)
  | _, _, .pro ⟨o, h1, h2, h3⟩ => .pro ⟨o, h1, h2, m _ _ h3 fun φ z => by cases z⟩
  | _, _, .adr a => .adr a
  | _, _, .tab h1 h2 h3 t => .tab h1 (m _ _ h2 fun φ z => by cases z) h3 (RpAll.less m t)
  | _, _, .pw h => .pw (m _ _ h fun φ z => by cases z)
  | _, _, .frm ⟨o, h1, h2, h3⟩ t => .frm ⟨o, h1, h2, m _ _ h3 fun φ z => by cases z⟩ (RpAll.less m t)
theorem RpAll.less {K : PySem.W.Frag} {F G : Hp} (m : Most F G) : ∀ {vs : List V} {ds : List D}, RpAll K F vs ds → RpAll K G vs ds
  | _, _, .nil => .nil
  | _, _, .cons h t => .cons (Rp.less m h) (RpAll.less m t)
end
/-! ### the lambda in the base -/
structure LamB (base : Heap) (f c : Addr) (q : Str) (params : Arguments) (body : Expr) (scope : Scope) (cl : List (Str × Addr)) (y : Str) (n : Int) : Prop where
  fn : ∃ pm ctv, base.get? f = some (PySem.W.kla_obj "<lambda>" q params body scope cl pm c ctv)
  code : base.CodeRec (.ref c) q
  cells : ∀ z a, cl.lookup z = some a → ∃ v, base.IsCell a v
  inj : ∀ z z' a, cl.lookup z = some a → cl.lookup z' = some a → z = z'
  val : ∃ a t, cl.lookup y = some a ∧ base.IsCell a (some (.int n t))
theorem LamB.at {base h : Heap} {H : Hp} {f c : Addr} {q : Str} {params : Arguments} {body : Expr} {scope : Scope} {cl : List (Str × Addr)} {y : Str} {n : Int} (B : LamB base f c q params body scope cl y n) (k : ∀ b o, base.get? b = some o → h.get? b = some o ∧ H b = none) :
    CellsAt cl [y] [some (.int n)] h H := by
  refine ⟨rfl, fun z a e => ?_, B.inj, fun i z e => ?_⟩
  · obtain ⟨v, o, ho, hd⟩ := B.cells z a e
    exact ⟨(k _ _ ho).2, v, o, (k _ _ ho).1, hd⟩
  · cases i with
    | zero =>
      cases e
      obtain ⟨a, t, e1, o, ho, hd⟩ := B.val
      refine ⟨a, e1, fun v hv => ?_⟩
      cases hv
      exact ⟨.int n t, ⟨t, rfl⟩, o, (k _ _ ho).1, hd⟩
    | succ i => simp at e
/-! ### the call that hands it over -/
/-- .. shown again -/
def shown (H1 H' : Hp) (c P : Addr) : Hp := fun b => if b = c ∨ b = P then H1 b else H' b
section
variable {K : PySem.W.Frag} {P0 : Program} {w : World} {q : Str} {F H H1 H' F' : Hp} {c P : Addr} {h h' : Heap}
end
end DN
/-! R-mode: one slot holds a reader (an instance with the fields text, at), which calls change -/
namespace DN
open PySem PySem.Spec PyProof.Rows L2
open LamX (Tabs ExtN)

abbrev RSt := Str × Int
inductive RR (α : Type) where
  | ok (a : α) (m : RSt) | ex (n : Str) | bad
def RR.bind {α β : Type} : RR α → (α → RSt → RR β) → RR β
  | .ok a m, f => f a m
  | .ex n, _ => .ex n
  | .bad, _ => .bad
def rdO (K : PySem.W.Frag) (dx : Addr) (m : RSt) : HO := .ins (He.ga K "Reader") dx [("text", .str m.1), ("at", .int m.2)]
def RdAt (K : PySem.W.Frag) (H : Hp) (p : Addr) (m : RSt) : Prop := ∃ dx, H p = some (rdO K dx m)
theorem rdO_nt {K : PySem.W.Frag} {dx : Addr} {m : RSt} : ∀ ps, rdO K dx m ≠ .tbl ps := fun ps z => by unfold rdO at z; cases z
theorem rdO_tup {K : PySem.W.Frag} {dx : Addr} {m : RSt} : ∀ xs, rdO K dx m ≠ .tup xs := fun ps z => by unfold rdO at z; cases z
/-- H without p -/
def mask (H : Hp) (p : Addr) : Hp := fun b => if b = p then none else H b
theorem mask_of {H : Hp} {p b : Addr} (h : b ≠ p) : mask H p b = H b := if_neg h
structure Rg (K : PySem.W.Frag) (T : List (Addr × Str)) (F0 G F H : Hp) (σ : L2.St) (ρ : Rho) (i : Nat) (p : Addr) (m : RSt) : Prop where
  at_ : At K T F H σ ρ
  nx : Nx T F0 G F H
  no : ∀ (j : Nat) (d : D), ρ[j]? ≠ some (En.o d)
  me : σ[i]? = some (some (.ref p))
  st : RdAt K H p m
  fF : F p = none
  fG : ∀ o, G p = some o → ∃ ps, o = .tbl ps
def aftR {α β : Type} (R : Hp → α → β → Prop) (K : PySem.W.Frag) (T : List (Addr × Str)) (E : XK) (F0 G F : Hp) (i : Nat) (σ : L2.St) (ρ : Rho) (p : Addr) (Q : α → Hp → Prop) : RR β → Prop
  | .ok b m => ∀ a F' H', Rg K T F0 G F' H' σ ρ i p m → Sub F F' → R F' a b → Q a H'
  | .ex n => ∀ F' H', Nx T F0 G F' H' → Tabs T H' → Sub F F' → E (.ref (He.ga K n)) none H'
  | .bad => False
section
variable {K : PySem.W.Frag} {T : List (Addr × Str)} {E : XK} {F0 G F H F1 H1 : Hp} {σ : L2.St} {ρ : Rho} {i : Nat} {p : Addr} {m : RSt}
theorem Rg.step (g : Rg K T F0 G F H σ ρ i p m) (n : Nx T F H F1 H1) : Rg K T F0 G F1 H1 σ ρ i p m := by
  obtain ⟨dx, h⟩ := g.st
  exact ⟨g.at_.nx n, g.nx.trans n, g.no, g.me, ⟨dx, n.keep h rdO_nt⟩, n.out h rdO_nt g.fF rdO_tup, g.fG⟩
theorem aftR.mono {α β : Type} {R : Hp → α → β → Prop} {Q : α → Hp → Prop} {r : RR β} (e : Sub F F1) (h : aftR R K T E F0 G F i σ ρ p Q r) : aftR R K T E F0 G F1 i σ ρ p Q r := by
  cases r with
  | ok b m => exact fun a F' H' g s => h a F' H' g (e.trans s)
  | ex n => exact fun F' H' g t s => h F' H' g t (e.trans s)
  | bad => exact h
theorem aftR.bind {α β γ δ : Type} {R : Hp → α → β → Prop} {S : Hp → γ → δ → Prop} {Q : γ → Hp → Prop} {r : RR β} {k : β → RSt → RR δ} (h : aftR S K T E F0 G F i σ ρ p Q (r.bind k)) :
    aftR R K T E F0 G F i σ ρ p (fun a H1 => ∃ b m1 F1, Sub F F1 ∧ Rg K T F0 G F1 H1 σ ρ i p m1 ∧ R F1 a b ∧ aftR S K T E F0 G F1 i σ ρ p Q (k b m1)) r := by
  cases r with
  | ok b m => exact fun a F2 H2 g s ra => ⟨b, m, F2, s, g, ra, aftR.mono s h⟩
  | ex n => exact h
  | bad => exact h
theorem aftR.imp {α β : Type} {R : Hp → α → β → Prop} {Q Q' : α → Hp → Prop} {r : RR β} (h : aftR R K T E F0 G F i σ ρ p Q r) (hq : ∀ a H', Q a H' → Q' a H') : aftR R K T E F0 G F i σ ρ p Q' r := by
  cases r with
  | ok b m => exact fun a F' H' g s ra => hq a H' (h a F' H' g s ra)
  | ex n => exact h
  | bad => exact h
end
section
variable {X : Cx} {T : List (Addr × Str)} {E : XK} {F0 G : Hp} {i : Nat}
end
/-! ### statements -/
inductive SRR where
  | nx (ρ : Rho) (m : RSt) | rt (d : D) (m : RSt) | ex (n : Str) | bad
def bindRS {α : Type} (r : RR α) (k : α → RSt → SRR) : SRR := match r with
  | .ok a m => k a m
  | .ex n => .ex n
  | .bad => .bad
def aftRS (K : PySem.W.Frag) (T : List (Addr × Str)) (E : XK) (F0 G F : Hp) (i : Nat) (p : Addr) (Z : Ends) : SRR → Prop
  | .nx ρ m => ∀ σ F' H', Rg K T F0 G F' H' σ ρ i p m → Sub F F' → Z.nx σ H'
  | .rt d m => ∀ v F' H', Nx T F0 G F' H' → RdAt K H' p m → F' p = none → Rp K F' v d → Z.rt v H'
  | .ex n => ∀ F' H', Nx T F0 G F' H' → Tabs T H' → Sub F F' → E (.ref (He.ga K n)) none H'
  | .bad => False
section
variable {K : PySem.W.Frag} {T : List (Addr × Str)} {E : XK} {F0 G F H F1 H1 : Hp} {σ : L2.St} {ρ : Rho} {i : Nat} {p : Addr} {m : RSt} {Z : Ends}
theorem aftRS.mono {r : SRR} (e : Sub F F1) (h : aftRS K T E F0 G F i p Z r) : aftRS K T E F0 G F1 i p Z r := by
  cases r with
  | nx ρ m => exact fun σ F' H' g s => h σ F' H' g (e.trans s)
  | rt d m => exact h
  | ex n => exact fun F' H' g t s => h F' H' g t (e.trans s)
  | bad => exact h
theorem aftRS.bind {α β : Type} {R : Hp → α → β → Prop} {r : RR β} {k : β → RSt → SRR} (h : aftRS K T E F0 G F i p Z (bindRS r k)) :
    aftR R K T E F0 G F i σ ρ p (fun a H1 => ∃ b m1 F1, Sub F F1 ∧ Rg K T F0 G F1 H1 σ ρ i p m1 ∧ R F1 a b ∧ aftRS K T E F0 G F1 i p Z (k b m1)) r := by
  cases r with
  | ok b m => exact fun a F2 H2 g s ra => ⟨b, m, F2, s, g, ra, aftRS.mono s h⟩
  | ex n => exact h
  | bad => exact h
end
section
variable {X : Cx} {T : List (Addr × Str)} {E : XK} {F0 G : Hp} {i : Nat}
theorem Rg.put {K : PySem.W.Frag} {F H : Hp} {σ : L2.St} {ρ : Rho} {p : Addr} {m : RSt} {j : Nat} {v : V} {d : D} (g : Rg K T F0 G F H σ ρ i p m) (hj : j ≠ i) (r : Rp K F v d) : Rg K T F0 G F H (σ.set j (some v)) (ρ.set j (.z d)) i p m := by
  refine ⟨⟨g.at_.z, g.at_.t, g.at_.r.set r⟩, g.nx, fun k d' e => ?_, ?_, g.st, g.fF, g.fG⟩
  · rw [List.getElem?_set] at e
    split at e
    · split at e <;> cases e
    · exact g.no k d' e
  · rw [List.getElem?_set, if_neg hj]
    exact g.me
/-! self.at = e -/
theorem rdO_code {K : PySem.W.Frag} {dx a : Addr} {m : RSt} : ∀ q, rdO K dx m ≠ LamX.CodeO a q := fun q z => by unfold rdO LamX.CodeO at z; cases z
end
/-! ### methods -/
section
variable {K : PySem.W.Frag} {T : List (Addr × Str)} {E : XK} {F0 G F H F1 H1 : Hp} {σ : L2.St} {ρ : Rho} {i : Nat} {p : Addr} {m : RSt}
theorem mask_tabs (h : RdAt K H p m) (t : Tabs T H) : Tabs T (mask H p) := fun q hq => by
  obtain ⟨dx, h⟩ := h
  obtain ⟨ps, k1, k2, k3⟩ := t q hq
  refine ⟨ps, by rw [mask_of fun z => by rw [z, h] at k1; exact rdO_nt ps (Option.some.inj k1)]; exact k1, k2, fun pos cv hc => ?_⟩
  obtain ⟨c, e1, e2⟩ := k3 pos cv hc
  exact ⟨c, e1, by rw [mask_of fun z => by rw [z, h] at e2; exact rdO_code _ (Option.some.inj e2)]; exact e2⟩
/-- a call's changes behind what was there -/
theorem Nx.over (n1 : Nx T F0 G F H) (fG : ∀ o, G p = some o → ∃ ps, o = .tbl ps) (st : RdAt K H p m) (n2 : Nx T F (mask H p) F1 H1) : Nx T F0 G F1 H1 := by
  refine ⟨n1.f.trans n2.f, n2.z, fun b o e nt => ?_, fun a o e => ?_, fun t => n2.tab (mask_tabs st (n1.tab t))⟩
  · refine n2.h b o ?_ nt
    rw [mask_of fun z => by
      rw [z] at e
      obtain ⟨ps, w⟩ := fG o e
      exact nt ps w]
    exact n1.h b o e nt
  · rcases n2.new a o e with q | q
    · exact n1.new a o q
    · refine .inr fun o' e' => ?_
      by_cases w : ∃ ps, o' = .tbl ps
      · exact .inl w
      · refine q o' ?_
        rw [mask_of fun z => by
          rw [z] at e'
          exact w (fG o' e')]
        exact n1.h a o' e' fun ps z => w ⟨ps, z⟩
end
section
variable {X : Cx} {T : List (Addr × Str)} {E : XK} {F0 G : Hp} {i : Nat}
end
/-! ### a new reader -/
section
variable {X : Cx} {T : List (Addr × Str)} {E : XK} {F0 H0 : Hp}
end
end DN
/-! books: dicts whose keys are tuples of ints -/
namespace DN
open PySem PySem.Spec PyProof.Rows L2
open LamX (Tabs ExtN)
def kI (ks : List Int) : List Key := ks.map Sum.inl
def intsOf : List Key → Option (List Int)
  | [] => some []
  | .inl i :: r => (intsOf r).map fun l => i :: l
  | _ => none
def vInt : V → Option D
  | .int i => some (.int i)
  | _ => none
def getT : D → D → Option D
  | .dT kvs, .pw ks => (valV kvs (kI ks)).bind vInt
  | _, _ => none
section
variable {X : Cx} {T : List (Addr × Str)} {W : WX} {F0 H0 : Hp}
/-! ### the frame's own -/
theorem ntTd {kvs : List (List Key × V)} : ∀ ps, HO.dT kvs ≠ .tbl ps := fun ps z => by cases z
theorem dT_code {kvs : List (List Key × V)} {a : Addr} : ∀ q, HO.dT kvs ≠ LamX.CodeO a q := fun q z => by unfold LamX.CodeO at z; cases z
/-! ### made fast: from here on it is not changed -/
theorem OwnAt.sub {K : PySem.W.Frag} {F F' H : Hp} {p : Addr} (e : Sub F F') : ∀ {d : D}, OwnAt K F H p d → OwnAt K F' H p d
  | .lst _, ⟨xs, h, r⟩ => ⟨xs, h, r.mono e⟩
  | .dK _, h => h
  | .dT _, h => h
  | .dic _ _ _ _, ⟨es, h, r⟩ => ⟨es, h, r.mono e⟩
  | .ins _ _ _, ⟨dx, ws, h, r⟩ => ⟨dx, ws, h, r.mono e⟩
theorem Sg.fast {K : PySem.W.Frag} {F H : Hp} {σ : L2.St} {ρ : Rho} {i : Nat} {p : Addr} {kvs : List (List Key × V)} {od : Obj} (g : Sg K T F0 H0 F H σ ρ) (hi : ρ[i]? = some (.o (.dT kvs))) (hs : σ[i]? = some (some (.ref p))) (hp : F p = none) (hx : H p = some (.dT kvs)) :
    Sg K T F0 H0 (upd F p (.frz od (.dT kvs))) (upd H p (.frz od (.dT kvs))) σ (ρ.set i (.z (.dT kvs))) ∧ Sub F (upd F p (.frz od (.dT kvs))) := by
  have il : i < ρ.length := (List.getElem?_eq_some_iff.mp hi).1
  have ow := g.ow i _ p hi hs
  have sb : Sub F (upd F p (.frz od (.dT kvs))) := fun a o e => by rw [upd_ne fun z => by rw [z, hp] at e; cases e]; exact e
  have z1 : Fz (upd F p (.frz od (.dT kvs))) (upd H p (.frz od (.dT kvs))) := ⟨fun a o e => by
    by_cases ha : a = p
    · subst ha; rw [upd_same] at e ⊢; exact e
    · rw [upd_ne ha] at e ⊢; exact g.at_.z.sub _ _ e, fun a ps e => by
    by_cases ha : a = p
    · subst ha; rw [upd_same] at e; cases e
    · rw [upd_ne ha] at e; exact g.at_.z.nt _ _ e⟩
  refine ⟨⟨⟨z1, tabs_updG g.at_.t hx ntTd dT_code, ?_⟩, ⟨g.nx.f.trans sb, z1, fun b o eb no => ?_, fun a o e => ?_, fun t => tabs_updG (g.nx.tab t) hx ntTd dT_code⟩, fun j e q h1 h2 => ?_⟩, sb⟩
  · refine ⟨by rw [List.length_set]; exact g.at_.r.len, fun j e hj => ?_, fun j e hj => ?_, fun j k a b q1 q2 hn h1 h2 h3 h4 => ?_⟩
    · rw [List.getElem?_set] at hj
      by_cases hij : i = j
      · subst hij
        rw [if_pos rfl, if_pos il] at hj
        cases hj
        exact ⟨_, hs, .dT ⟨od, upd_same⟩⟩
      · rw [if_neg hij] at hj
        obtain ⟨v, e1, e2⟩ := g.at_.r.z j e hj
        exact ⟨v, e1, e2.mono sb⟩
    · rw [List.getElem?_set] at hj
      by_cases hij : i = j
      · subst hij
        rw [if_pos rfl, if_pos il] at hj
        cases hj
      · rw [if_neg hij] at hj
        obtain ⟨q, h1, h2, h3⟩ := g.at_.r.o j e hj
        have hne : p ≠ q := g.at_.r.ne i j _ _ p q hij hi hj hs h1
        exact ⟨q, h1, by rw [upd_ne (Ne.symm hne)]; exact h2, (h3.updN (Ne.symm hne)).sub sb⟩
    · have o1 : ∀ j e, (ρ.set i (.z (.dT kvs)))[j]? = some (En.o e) → ρ[j]? = some (En.o e) := fun j e h => by
        rw [List.getElem?_set] at h
        by_cases hij : i = j
        · subst hij
          rw [if_pos rfl, if_pos il] at h
          cases h
        · rw [if_neg hij] at h; exact h
      exact g.at_.r.ne j k a b q1 q2 hn (o1 j a h1) (o1 k b h2) h3 h4
  · rw [upd_ne fun z => by
      subst z
      obtain ⟨ps, k⟩ := ow o eb
      exact no ps k]
    exact g.nx.h _ _ eb no
  · by_cases ha : a = p
    · subst ha
      exact .inr fun o' e' => .inl (ow o' e')
    · rw [upd_ne ha] at e
      exact g.nx.new a o e
  · rw [List.getElem?_set] at h1
    by_cases hij : i = j
    · subst hij
      rw [if_pos rfl, if_pos il] at h1
      cases h1
    · rw [if_neg hij] at h1
      exact g.ow j e q h1 h2
end
end DN
/-! tuples of ints whose object is known: how they come to be, and how that is forgotten -/
namespace DN
open PySem PySem.Spec PyProof.Rows L2
open LamX (Tabs ExtN)
section
variable {X : Cx} {T : List (Addr × Str)} {W : WX}
end
end DN
/-! {k: v} with one key, a tuple of ints: a frozen book -/
namespace L2
open PySem PySem.Spec PyProof.Rows
end L2
namespace DN
open PySem PySem.Spec PyProof.Rows L2
open LamX (Tabs ExtN)
end DN
/-! dict(book): the keys' hashes are apart -/
namespace L2
open PySem PySem.Spec PyProof.Rows
def keyHashI (ks : List Int) : Int := reduceHash (Builtin.Tuple.tupleHashOf (ks.map hashInt))
end L2
namespace DN
open PySem PySem.Spec PyProof.Rows L2
open LamX (Tabs ExtN)
def keysI : List (List Key × V) → Option (List (List Int))
  | [] => some []
  | q :: r => (intsOf q.1).bind fun l => (keysI r).map fun ls => l :: ls
/-- the keys hash apart -/
def apart (kvs : List (List Key × V)) : Bool := match keysI kvs with
  | some ls => decide ((ls.map keyHashI).Nodup)
  | none => false
section
variable {X : Cx} {T : List (Addr × Str)} {W : WX} {F0 H0 : Hp}
end
end DN
/-! book == {} -/
namespace L2
open PySem PySem.Spec PyProof.Rows
end L2
namespace DN
open PySem PySem.Spec PyProof.Rows L2
open LamX (Tabs ExtN)
end DN
/-! sorted(book.items()) -/
namespace L2
open PySem PySem.Spec PyProof.Rows PySem.W
/-- a book's entries -/
abbrev Ent := List Int × Int
def encB (e : Ent) : PyData := .tuple [.tuple (e.1.map .int), .int e.2]
theorem reads_ints {h : Heap} : ∀ {ns : List Int} {us : List Value}, Vals (ns.map V.int) us → ReadsAll h us (ns.map .int) []
  | [], _, r => by cases r; exact .nil
  | n :: ns, _, r => by
    rw [List.map_cons] at r
    cases r with
    | cons h1 t =>
      obtain ⟨tk, rfl⟩ := h1
      exact .cons (as := []) (bs := []) (.int n tk) (reads_ints t)
section
variable {X : Cx}
/-- a pair that was made of a book's entry: its address, the entry, the key's address -/
abbrev Made1 := Addr × Ent × Addr
def Laid1 (H : Hp) (h : Heap) (z : Made1) : Prop := H z.2.2 = some (.tup (z.2.1.1.map V.int)) ∧ ∃ t, h.get? z.1 = some { cls := .type "tuple", data := .seq #[Value.ref z.2.2, Value.int z.2.1.2 t] }
/-- one address, one pair -/
theorem Laid1.same {H : Hp} {h : Heap} {z z' : Made1} (l : Laid1 H h z) (l' : Laid1 H h z') (e : z'.1 = z.1) : [V.ref z'.2.2, V.int z'.2.1.2] = [V.ref z.2.2, V.int z.2.1.2] := by
  obtain ⟨_, _, g⟩ := l
  obtain ⟨_, _, g'⟩ := l'
  rw [e, g] at g'
  injection g' with g'
  simp at g'
  rw [g'.1, g'.2.1]
/-- a pair read as data -/
theorem Laid1.reads {P : Program} {w : World} {H : Hp} {h0 h h' : Heap} {z : Made1} (ok : HOk P w H h0) (k0 : ∀ b o, h0.get? b = some o → h'.get? b = some o) (k : ∀ b o, h.get? b = some o → h'.get? b = some o) (l : Laid1 H h z) : Reads h' (.ref z.1) (encB z.2.1) [] := by
  obtain ⟨key, t, g⟩ := l
  obtain ⟨_, its, rv, ot, e, c, n, d⟩ := (show ObjOk P w H h0 z.2.2 (.tup (z.2.1.1.map V.int)) from ok _ _ key)
  have rk : Reads h' (.ref z.2.2) (.tuple (z.2.1.1.map .int)) [] := Reads.tuple (k0 _ _ e) c d (by simpa using reads_ints rv)
  exact Reads.tuple (k _ _ g) rfl rfl (.cons (as := []) (bs := []) rk (.cons (as := []) (bs := []) (.int _ _) .nil))
end
end L2
namespace L2
open PySem PySem.Spec PyProof.Rows
end L2
namespace DN
open PySem PySem.Spec PyProof.Rows L2
open LamX (Tabs ExtN)
def vNum : V → Option Int
  | .int n => some n
  | _ => none
def ents : List (List Key × V) → Option (List Ent)
  | [] => some []
  | q :: r => (intsOf q.1).bind fun l => (vNum q.2).bind fun n => (ents r).map fun es => (l, n) :: es
section
variable {X : Cx} {T : List (Addr × Str)} {W : WX}
end
end DN
/-! tuple(sorted(..)) with its object known; dict of such a tuple -/
namespace L2
open PySem PySem.Spec PyProof.Rows PySem.W
end L2
namespace DN
open PySem PySem.Spec PyProof.Rows L2
open LamX (Tabs ExtN)
section
variable {X : Cx} {T : List (Addr × Str)} {W : WX}
end
end DN
namespace DN
open PySem PySem.Spec PyProof.Rows L2 PySem.W
open LamX (Tabs ExtN)
end DN
namespace DN
end DN
/-! is, is not of two truths -/
namespace DN
open PySem PySem.Spec PyProof.Rows L2
end DN
/-! a tuple times any small number: none and once by DN42, more by DN1 -/
namespace DN
open PySem PySem.Spec PyProof.Rows L2
end DN
namespace LW
open PySem PySem.Spec PyProof.Rows L2 DN
open TL (numL numL_lt numL_step numL_digits numL_ne tl_num)

/-! ### figures of whole numbers -/
def figs (n : Nat) : Nat := (numL n).length
theorem figs_small {n : Nat} (h : n < 10) : figs n = 1 := by unfold figs; rw [numL_lt h]; rfl
theorem figs_step {n : Nat} (h : 10 ≤ n) : figs n = figs (n / 10) + 1 := by unfold figs; rw [numL_step h, List.length_append]; rfl
theorem figs_pos (n : Nat) : 1 ≤ figs n := by
  by_cases h : n < 10
  · rw [figs_small h]; exact Nat.le_refl 1
  · rw [figs_step (by omega)]; omega
theorem figs_lt : ∀ (n : Nat), n < 10 ^ figs n := fun n => by
  induction n using Nat.strongRecOn with
  | ind n ih =>
    by_cases h : n < 10
    · rw [figs_small h]; omega
    · have := ih (n / 10) (by omega)
      rw [figs_step (by omega), Nat.pow_succ]
      omega
theorem figs_ge : ∀ (n : Nat), 0 < n → 10 ^ (figs n - 1) ≤ n := fun n => by
  induction n using Nat.strongRecOn with
  | ind n ih =>
    intro h0
    by_cases h : n < 10
    · rw [figs_small h]
      show 10 ^ 0 ≤ n
      have : (10 : Nat) ^ 0 = 1 := rfl
      omega
    · have := ih (n / 10) (by omega) (by omega)
      rw [figs_step (by omega)]
      have h2 := figs_pos (n / 10)
      have e : figs (n / 10) + 1 - 1 = (figs (n / 10) - 1) + 1 := by omega
      rw [e, Nat.pow_succ]
      omega
theorem pow10_le {a b : Nat} (h : a ≤ b) : 10 ^ a ≤ 10 ^ b := Nat.pow_le_pow_right (by decide) h
theorem pow10_pos (a : Nat) : 0 < 10 ^ a := Nat.pow_pos (by decide)
theorem figs_le {n k : Nat} (hk : 1 ≤ k) (h : n < 10 ^ k) : figs n ≤ k := by
  by_cases h0 : n = 0
  · subst h0; rw [figs_small (by decide)]; exact hk
  · have h1 := figs_ge n (by omega)
    have h2 := figs_pos n
    by_cases hc : figs n ≤ k
    · exact hc
    · exfalso
      have := pow10_le (show k ≤ figs n - 1 by omega)
      omega
theorem str_tl (n : Nat) : (Str.ofString (toString (n : Int))).cps.toList = numL n := tl_num n
theorem str_tl_int {i : Int} (h : 0 ≤ i) : (Str.ofString (toString i)).cps.toList = numL i.natAbs := by
  obtain ⟨n, rfl⟩ : ∃ n : Nat, i = n := ⟨i.natAbs, by omega⟩
  rw [str_tl]; rfl
theorem str_len {i : Int} (h : 0 ≤ i) : (Str.ofString (toString i)).length = figs i.natAbs := by
  show (Str.ofString (toString i)).cps.size = _
  rw [← Array.length_toList, str_tl_int h]; rfl
theorem abs_if (i : Int) : (if i < 0 then -i else i) = (i.natAbs : Int) := by split <;> omega
/-- len(str(n)) -/
theorem lenstr {i : Int} (h : 0 ≤ i) (h2 : i.natAbs < 10 ^ 500) : strD [.int i] = some (.str (Str.ofString (toString i))) ∧ lenD [.str (Str.ofString (toString i))] = some (.int (figs i.natAbs)) := by
  have hp : (10 : Nat) ^ 500 < 2 ^ 1900 := by decide +kernel
  refine ⟨str_i (Nat.lt_trans h2 hp), ?_⟩
  rw [len_s, str_len h]
  rw [str_len h]
  have := figs_le (by decide) h2
  omega
end LW
namespace LW
open PySem PySem.Spec PyProof.Rows L2 DN
open TL (numL numL_lt numL_step numL_digits numL_ne tl_num)
/-! ### texts -/
theorem s_ext {x y : Str} (h : x.cps.toList = y.cps.toList) : x = y := by
  cases x
  cases y
  simp only at h
  congr
  exact Array.toList_inj.mp h
theorem s_len (x : Str) : x.length = x.cps.toList.length := (Array.length_toList).symm
theorem app_tl (a b : Str) : (a ++ b).cps.toList = a.cps.toList ++ b.cps.toList := by
  show (a.cps ++ b.cps).toList = _
  simp
theorem cutS_tl (z : Str) (lo hi : Option Int) : (cutS z lo hi).cps.toList = (z.cps.toList.drop (HT.sIx z.length 0 lo)).take (HT.sIx z.length z.length hi - HT.sIx z.length 0 lo) := rfl
theorem sl_s {x : Str} {lo hi : Option Int} (h : x.length ≤ 1000000) : slD (.str x) lo hi = some (.str (cutS x lo hi)) := by
  show (if x.length ≤ sizeLine then some (D.str (cutS x lo hi)) else none) = _
  rw [if_pos (by rw [sizeLine_eq]; omega)]
theorem repS_one (c : Nat) (k : Int) : (repS ⟨#[c]⟩ k).cps.toList = List.replicate k.toNat c := by
  unfold repS
  show ((List.replicate k.toNat [c]).flatten).toArray.toList = _
  rw [List.toList_toArray]
  induction k.toNat with
  | zero => rfl
  | succ n ih => rw [List.replicate_succ, List.flatten_cons, ih]; rfl
theorem one_s (c : Nat) (s : String) (h : Str.ofString s = ⟨#[c]⟩) (k : Int) : (repS (Str.ofString s) k).cps.toList = List.replicate k.toNat c := by rw [h]; exact repS_one c k
theorem mul_si {x : Str} {n : Int} (h : n ≤ 1000000 ∧ -1000000 ≤ n ∧ x.length * n.toNat ≤ 1000000) : mulD (.str x) (.int n) = some (.str (repS x n)) := by
  show (if n ≤ 1000000 ∧ -1000000 ≤ n ∧ x.length * n.toNat ≤ 1000000 then some (D.str (repS x n)) else none) = _
  rw [if_pos h]
/-- one sign so often -/
theorem mul_one {s : String} {n : Int} (c : Nat) (h : Str.ofString s = ⟨#[c]⟩) (h1 : n ≤ 1000000) (h2 : -1000000 ≤ n) : mulD (.str (Str.ofString s)) (.int n) = some (.str (repS (Str.ofString s) n)) := mul_si ⟨h1, h2, by
  rw [h]
  show 1 * n.toNat ≤ 1000000
  omega⟩
theorem add_ss {x y : Str} (h : x.length + y.length ≤ 1000000) : addD (.str x) (.str y) = some (.str (x ++ y)) := by
  show (if x.length + y.length ≤ sizeLine then some (D.str (x ++ y)) else none) = _
  rw [if_pos (by rw [sizeLine_eq]; omega)]
end LW
namespace LW
open PySem PySem.Spec PyProof.Rows L2 DN
open TL (numL numL_lt numL_step numL_digits numL_ne tl_num)
/-! ### numbers' texts -/
def S (l : List Nat) : Str := ⟨l.toArray⟩
theorem S_tl (l : List Nat) : (S l).cps.toList = l := by simp [S]
theorem S_len (l : List Nat) : (S l).length = l.length := by rw [s_len, S_tl]
theorem S_of {x : Str} {l : List Nat} (h : x.cps.toList = l) : x = S l := s_ext (by rw [S_tl]; exact h)
theorem minus_s : Str.ofString "-" = ⟨#[45]⟩ := by decide +kernel
theorem zero_s : Str.ofString "0" = ⟨#[48]⟩ := by decide +kernel
theorem dot_s : Str.ofString "." = ⟨#[46]⟩ := by decide +kernel
theorem S_app (a b : List Nat) : S a ++ S b = S (a ++ b) := S_of (by rw [app_tl, S_tl, S_tl])
theorem dot_S : Str.ofString "." = S [46] := dot_s
theorem minus_S : Str.ofString "-" = S [45] := minus_s
theorem add_S {a b : List Nat} (h : a.length + b.length ≤ 1000000) : addD (.str (S a)) (.str (S b)) = some (.str (S (a ++ b))) := by
  rw [add_ss (by rw [S_len, S_len]; exact h), S_app]
theorem len_S {a : List Nat} (h : a.length ≤ 1000000) : lenD [.str (S a)] = some (.int a.length) := by
  rw [len_s (by rw [S_len]; exact h), S_len]
theorem cut_S (l : List Nat) (lo hi : Option Int) : cutS (S l) lo hi = S ((l.drop (HT.sIx l.length 0 lo)).take (HT.sIx l.length l.length hi - HT.sIx l.length 0 lo)) := S_of (by
  rw [cutS_tl, S_tl, S_len])
theorem sl_S {l : List Nat} {lo hi : Option Int} (h : l.length ≤ 1000000) : slD (.str (S l)) lo hi = some (.str (S ((l.drop (HT.sIx l.length 0 lo)).take (HT.sIx l.length l.length hi - HT.sIx l.length 0 lo)))) := by
  rw [sl_s (by rw [S_len]; exact h), cut_S]
theorem sl_lo1 {l : List Nat} (h : l.length ≤ 1000000) (h1 : 1 ≤ l.length) : slD (.str (S l)) (some 1) none = some (.str (S (l.drop 1))) := by
  rw [sl_S h, HT.sIx_none, show HT.sIx l.length 0 (some 1) = min 1 l.length from HT.sIx_nat _ _ 1, show min 1 l.length = 1 by omega]
  congr 3
  exact List.take_of_length_le (by rw [List.length_drop]; omega)
end LW
namespace LW
open PySem PySem.Spec PyProof.Rows L2 DN
/-! ### rounding, plainly -/
inductive Hw where | nought | more | even | away
  deriving DecidableEq
inductive Mn where | even | away | nought | up | down
  deriving DecidableEq
def Hw.s : Hw → Str
  | .nought => "nought" | .more => "more" | .even => "even" | .away => "away"
def Mn.s : Mn → Str
  | .nought => "nought" | .up => "up" | .down => "down" | .even => "even" | .away => "away"
def Mn.by : Mn → Bool → Hw
  | .up, false => .more | .up, true => .nought | .down, false => .nought | .down, true => .more | .even, _ => .even | .away, _ => .away | .nought, _ => .nought
def takenZ (h : Hw) (q r l : Int) : Int := if r = 0 then q else match h with
  | .nought => q
  | .more => q + 1
  | .even => if 2 * r = l then q + (if q % 2 = 1 then 1 else 0) else q + (if l < 2 * r then 1 else 0)
  | .away => if 2 * r = l then q + 1 else q + (if l < 2 * r then 1 else 0)
def strip : Nat → Int → Int → Int × Int
  | 0, a, b => (a, b)
  | n + 1, a, b => if a % 10 = 0 then strip n (a / 10) (b + 1) else (a, b)
def sgZ (bl : Bool) : Int := 1 - 2 * (if bl = true then 1 else 0)
def hgZ (s : Int × Int) : Int := s.2 + (figs s.1.natAbs : Int) - 1
def fitZ (h : Hw) (w p : Int) (bl : Bool) : Option (Int × Int) :=
  if 40 < hgZ (strip 5000 w p) then none else if hgZ (strip 5000 w p) < -40 then (if h = .more then some (sgZ bl, -40) else some (0, 0)) else some (sgZ bl * (strip 5000 w p).1, (strip 5000 w p).2)
def pw0 (U L : Nat) : Int := (figs U : Int) - (figs L : Int) - 8
def pwN (U L : Nat) : Int := if L * 10 ^ (pw0 U L).toNat * 10 ^ 8 ≤ U * 10 ^ (-(pw0 U L)).toNat then pw0 U L + 1 else pw0 U L
def exZ (m : Mn) (u l : Int) : Option (Int × Int) :=
  if u = 0 then some (0, 0) else
    let p := pwN u.natAbs l.natAbs
    let U : Int := (u.natAbs : Int) * 10 ^ (-p).toNat
    let L : Int := (l.natAbs : Int) * 10 ^ p.toNat
    let bl := decide (u < 0) != decide (l < 0)
    fitZ (m.by bl) (takenZ (m.by bl) (U / L) (U % L) L) p bl
theorem pow_add10 (a b : Nat) : (10 : Nat) ^ a * 10 ^ b = 10 ^ (a + b) := (Nat.pow_add 10 a b).symm
theorem pw_hi {U L : Nat} {p : Int} (hL : 0 < L) (hp : p = pw0 U L + 1) : U * 10 ^ (-p).toNat < L * 10 ^ p.toNat * 10 ^ 8 := by
  have h1 := figs_lt U
  have h2 := figs_ge L hL
  have h3 := figs_pos L
  unfold pw0 at hp
  have e : figs U + (-p).toNat = (figs L - 1) + p.toNat + 8 := by omega
  have a1 : U * 10 ^ (-p).toNat < 10 ^ figs U * 10 ^ (-p).toNat := Nat.mul_lt_mul_of_pos_right h1 (pow10_pos _)
  have a2 : 10 ^ (figs L - 1) * 10 ^ p.toNat * 10 ^ 8 ≤ L * 10 ^ p.toNat * 10 ^ 8 := Nat.mul_le_mul_right _ (Nat.mul_le_mul_right _ h2)
  rw [pow_add10, e] at a1
  rw [pow_add10, pow_add10] at a2
  omega
theorem pw_lo {U L : Nat} {p : Int} (hU : 0 < U) (hp : p = pw0 U L) : L * 10 ^ (p.toNat + 7) ≤ U * 10 ^ (-p).toNat := by
  have h1 := figs_lt L
  have h2 := figs_ge U hU
  have h3 := figs_pos U
  unfold pw0 at hp
  have e : (figs U - 1) + (-p).toNat = figs L + (p.toNat + 7) := by omega
  have a1 : L * 10 ^ (p.toNat + 7) < 10 ^ figs L * 10 ^ (p.toNat + 7) := Nat.mul_lt_mul_of_pos_right h1 (pow10_pos _)
  have a2 : 10 ^ (figs U - 1) * 10 ^ (-p).toNat ≤ U * 10 ^ (-p).toNat := Nat.mul_le_mul_right _ h2
  rw [pow_add10] at a1
  rw [pow_add10, e] at a2
  omega
theorem pw_same {U L : Nat} {p : Int} : (U * 10 ^ (-(p + 1)).toNat < L * 10 ^ ((p + 1).toNat + 7)) ↔ ¬ L * 10 ^ p.toNat * 10 ^ 8 ≤ U * 10 ^ (-p).toNat := by
  rw [Nat.not_le]
  by_cases h : 0 ≤ p
  · have e1 : (-(p + 1)).toNat = 0 := by omega
    have e2 : (-p).toNat = 0 := by omega
    have e3 : (p + 1).toNat + 7 = p.toNat + 8 := by omega
    rw [e1, e2, e3, Nat.pow_add, Nat.mul_assoc]
  · have e1 : (-p).toNat = (-(p + 1)).toNat + 1 := by omega
    have e2 : p.toNat = 0 := by omega
    have e3 : (p + 1).toNat + 7 = 7 := by omega
    have e4 : (10 : Nat) ^ ((-(p + 1)).toNat + 1) = 10 ^ (-(p + 1)).toNat * 10 := Nat.pow_succ _ _
    rw [e1, e2, e3, e4]
    generalize (10 : Nat) ^ (-(p + 1)).toNat = x
    have : U * (x * 10) = U * x * 10 := by rw [Nat.mul_assoc]
    rw [this]
    generalize U * x = y
    omega
theorem pw_low {U L : Nat} (hU : 0 < U) (hL : 0 < L) : L * 10 ^ (pwN U L).toNat * 10 ^ 7 ≤ U * 10 ^ (-(pwN U L)).toNat ∧ U * 10 ^ (-(pwN U L)).toNat < L * 10 ^ (pwN U L).toNat * 10 ^ 8 := by
  unfold pwN
  by_cases h : L * 10 ^ (pw0 U L).toNat * 10 ^ 8 ≤ U * 10 ^ (-(pw0 U L)).toNat
  · rw [if_pos h]
    refine ⟨?_, pw_hi hL rfl⟩
    have := (Decidable.not_iff_not.mpr (pw_same (U := U) (L := L) (p := pw0 U L))).mpr (fun z => z h)
    rw [Nat.not_lt, Nat.pow_add, ← Nat.mul_assoc] at this
    exact this
  · rw [if_neg h]
    have := pw_lo (L := L) hU rfl
    rw [Nat.pow_add, ← Nat.mul_assoc] at this
    exact ⟨this, by omega⟩
/-! the parts -/
theorem strip_neg : ∀ (n : Nat) (a b : Int), strip n (-a) b = (-(strip n a b).1, (strip n a b).2)
  | 0, _, _ => rfl
  | n + 1, a, b => by
    unfold strip
    by_cases h : a % 10 = 0
    · have e : -a / 10 = -(a / 10) := by omega
      rw [if_pos h, if_pos (by omega), e, strip_neg n]
    · rw [if_neg h, if_neg (by omega)]
theorem strip_pos : ∀ (n : Nat) (a b : Int), 0 < a → 0 < (strip n a b).1 ∧ (strip n a b).1 ≤ a ∧ b ≤ (strip n a b).2 ∧ (strip n a b).2 ≤ b + n
  | 0, a, b, h => ⟨h, Int.le_refl a, Int.le_refl b, by show b ≤ b + (0 : Nat); omega⟩
  | n + 1, a, b, h => by
    unfold strip
    by_cases h0 : a % 10 = 0
    · rw [if_pos h0]
      obtain ⟨h1, h2, h3, h4⟩ := strip_pos n (a / 10) (b + 1) (by omega)
      exact ⟨h1, by omega, by omega, by omega⟩
    · rw [if_neg h0]
      exact ⟨h, Int.le_refl a, Int.le_refl b, by show b ≤ b + ((n + 1 : Nat) : Int); omega⟩
theorem natAbs_mul_pow {u : Int} {n k : Nat} (h : u.natAbs < 10 ^ k) : (u * 10 ^ n).natAbs < 10 ^ (k + n) := by
  have e : ((10 : Int) ^ n).natAbs = 10 ^ n := by rw [Int.natAbs_pow]; rfl
  rw [Int.natAbs_mul, e, Nat.pow_add]
  exact Nat.mul_lt_mul_of_pos_right h (pow10_pos n)
theorem pow_z (n : Nat) : ((10 : Int) ^ n).natAbs = 10 ^ n := by rw [Int.natAbs_pow]; rfl
theorem mul_z {i j : Int} (h1 : i.natAbs < 10 ^ 2000) (h2 : j.natAbs < 10 ^ 2000) : mulD (.int i) (.int j) = some (.int (i * j)) := by
  have p : (10 : Nat) ^ 2000 ≤ 2 ^ 100000 := by decide +kernel
  exact mul_w (Nat.lt_of_lt_of_le h1 p) (Nat.lt_of_lt_of_le h2 p)
theorem div_z {i j : Int} (h : 0 < j) (h2 : j.natAbs < 10 ^ 2000) : divD (.int i) (.int j) = some (.int (i / j)) := by
  have p : (10 : Nat) ^ 2000 ≤ 2 ^ 8000 := by decide +kernel
  exact div_w h (Nat.lt_of_lt_of_le h2 p)
theorem mul_t {u : Int} {n : Nat} (h : u.natAbs < 10 ^ 1000) (hn : n ≤ 900) : mulD (.int u) (.int (10 ^ n)) = some (.int (u * 10 ^ n)) :=
  mul_z (Nat.lt_of_lt_of_le h (pow10_le (by decide))) (by rw [pow_z]; exact Nat.pow_lt_pow_right (by decide) (by omega))
theorem maxz (x : Int) : (if (0 : Int) > x then 0 else x) = (x.toNat : Int) := by split <;> omega
theorem pow_ge1 (n : Nat) : (1 : Int) ≤ 10 ^ n := by
  have : (0 : Int) < 10 ^ n := Int.pow_pos (by decide)
  omega
end LW
namespace LW
open PySem PySem.Spec PyProof.Rows L2 DN
/-! ### rounding over the fractions -/
def T (p : Int) : Rat := (10 : Rat) ^ p
theorem T_pos (p : Int) : 0 < T p := Rat.zpow_pos (by decide)
theorem T_add (a b : Int) : T (a + b) = T a * T b := Rat.zpow_add (by decide) a b
theorem T_zero : T 0 = 1 := Rat.zpow_zero 10
theorem T_one : T 1 = 10 := Rat.zpow_one 10
theorem T_nat (n : Nat) : T (n : Int) = ((10 ^ n : Int) : Rat) := by
  unfold T
  rw [Rat.zpow_natCast, Rat.intCast_pow]
  rfl
theorem T_neg (p : Int) : T p * T (-p) = 1 := by rw [← T_add, show p + -p = 0 by omega, T_zero]
theorem T_ge1 (n : Nat) : 1 ≤ T (n : Int) := by
  rw [T_nat]
  exact Rat.intCast_le_intCast.mpr (pow_ge1 n)
theorem T_mono {a b : Int} (h : a ≤ b) : T a ≤ T b := by
  obtain ⟨n, e⟩ := Int.eq_ofNat_of_zero_le (show 0 ≤ b - a by omega)
  have e2 : b = a + (n : Int) := by omega
  rw [e2, T_add]
  have := Rat.mul_le_mul_of_nonneg_left (T_ge1 n) (Rat.le_of_lt (T_pos a))
  rwa [Rat.mul_one] at this
theorem T_lt {a b : Int} (h : a < b) : T a < T b := by
  have h1 := T_mono (show a + 1 ≤ b by omega)
  have h2 := T_pos a
  rw [T_add, T_one] at h1
  grind
theorem T_lt_iff {a b : Int} : T a < T b ↔ a < b := ⟨fun h => by
  by_cases q : a < b
  · exact q
  · have := T_mono (show b ≤ a by omega)
    grind, T_lt⟩
theorem le_div {a b c : Rat} (hc : 0 < c) : a ≤ b / c ↔ a * c ≤ b := by rw [← Rat.not_lt, ← Rat.not_lt, Rat.div_lt_iff hc]
theorem mul_cancel {a b c : Rat} (hc : 0 < c) (h : a * c = b * c) : a = b := by
  have n : c ≠ 0 := fun z => by grind
  rw [← Rat.mul_div_cancel (a := a) n, h, Rat.mul_div_cancel n]
def vl (s : Int × Int) : Rat := (s.1 : Rat) * T s.2
/-- one power about a fraction above 0 -/
def PwOf (v : Rat) (p : Int) : Prop := T (p + 7) ≤ v ∧ v < T (p + 8)
theorem pw_uniq {v : Rat} {p q : Int} (h : PwOf v p) (g : PwOf v q) : p = q := by
  have a := T_lt_iff.mp (show T (p + 7) < T (q + 8) from by have := h.1; have := g.2; grind)
  have b := T_lt_iff.mp (show T (q + 7) < T (p + 8) from by have := h.2; have := g.1; grind)
  omega
theorem frac_T {U L : Nat} (hL : 0 < L) (p : Int) : ((U : Int) : Rat) / ((L : Int) : Rat) * T (-p) = (((U : Int) * 10 ^ (-p).toNat : Int) : Rat) / (((L : Int) * 10 ^ p.toNat : Int) : Rat) := by
  have hL' : (0 : Rat) < ((L : Int) : Rat) := Rat.intCast_pos.mpr (by omega)
  rw [Rat.intCast_mul, Rat.intCast_mul, ← T_nat, ← T_nat]
  have e : T (-p) * T (p.toNat : Int) = T ((-p).toNat : Int) := by rw [← T_add]; congr 1; omega
  have h1 := T_pos (p.toNat : Int)
  grind
theorem pw_R {U L : Nat} (hU : 0 < U) (hL : 0 < L) : PwOf (((U : Int) : Rat) / ((L : Int) : Rat)) (pwN U L) := by
  obtain ⟨h1, h2⟩ := pw_low hU hL
  have e := frac_T (U := U) hL (pwN U L)
  generalize pwN U L = p at *
  have lp : (0 : Rat) < (((L : Int) * 10 ^ p.toNat : Int) : Rat) := Rat.intCast_pos.mpr (Int.mul_pos (by omega) (by have := pow_ge1 p.toNat; omega))
  have t1 : (10 : Rat) ^ 7 ≤ ((U : Int) : Rat) / ((L : Int) : Rat) * T (-p) := by
    rw [e]
    have : (10 : Rat) ^ 7 * (((L : Int) * 10 ^ p.toNat : Int) : Rat) ≤ (((U : Int) * 10 ^ (-p).toNat : Int) : Rat) := by
      have : (((10 : Int) ^ 7 * ((L : Int) * 10 ^ p.toNat) : Int) : Rat) ≤ (((U : Int) * 10 ^ (-p).toNat : Int) : Rat) := by
        refine Rat.intCast_le_intCast.mpr ?_
        have := Int.ofNat_le.mpr h1
        simp only [Int.natCast_mul, Int.natCast_pow] at this
        rw [Int.mul_comm]
        exact this
      rwa [Rat.intCast_mul] at this
    exact (le_div lp).mpr this
  have t2 : ((U : Int) : Rat) / ((L : Int) : Rat) * T (-p) < (10 : Rat) ^ 8 := by
    rw [e]
    have : (((U : Int) * 10 ^ (-p).toNat : Int) : Rat) < (10 : Rat) ^ 8 * (((L : Int) * 10 ^ p.toNat : Int) : Rat) := by
      have : (((U : Int) * 10 ^ (-p).toNat : Int) : Rat) < (((10 : Int) ^ 8 * ((L : Int) * 10 ^ p.toNat) : Int) : Rat) := by
        refine Rat.intCast_lt_intCast.mpr ?_
        have := Int.ofNat_lt.mpr h2
        simp only [Int.natCast_mul, Int.natCast_pow] at this
        rw [Int.mul_comm ((10 : Int) ^ 8)]
        exact this
      rwa [Rat.intCast_mul (10 ^ 8)] at this
    rw [Rat.div_lt_iff lp]
    exact this
  have t7 : T 7 = (10 : Rat) ^ 7 := Rat.zpow_natCast 10 7
  have t8 : T 8 = (10 : Rat) ^ 8 := Rat.zpow_natCast 10 8
  have hp := T_pos p
  have hn := T_neg p
  have key : ∀ v : Rat, v * T (-p) * T p = v := fun v => by grind
  constructor
  · have := Rat.mul_le_mul_of_nonneg_right t1 (Rat.le_of_lt hp)
    rw [key, ← t7, ← T_add, Int.add_comm] at this
    exact this
  · have := Rat.mul_lt_mul_of_pos_right t2 hp
    rw [key, ← t8, ← T_add, Int.add_comm] at this
    exact this
/-- a fraction rounded to a whole number -/
def tkR (h : Hw) (x : Rat) : Int := if x = (x.floor : Rat) then x.floor else match h with
  | .nought => x.floor
  | .more => x.floor + 1
  | .even => if 2 * (x - x.floor) = 1 then x.floor + (if x.floor % 2 = 1 then 1 else 0) else x.floor + (if 1 < 2 * (x - x.floor) then 1 else 0)
  | .away => if 2 * (x - x.floor) = 1 then x.floor + 1 else x.floor + (if 1 < 2 * (x - x.floor) then 1 else 0)
theorem floor_div {U L : Int} (hL : 0 < L) : ((U : Rat) / (L : Rat)).floor = U / L := by
  have hL' : (0 : Rat) < (L : Rat) := Rat.intCast_pos.mpr hL
  have h1 : U / L ≤ ((U : Rat) / (L : Rat)).floor := by
    rw [Rat.le_floor_iff, le_div hL', ← Rat.intCast_mul, Rat.intCast_le_intCast]
    exact Int.ediv_mul_le U (by omega)
  have h2 : ((U : Rat) / (L : Rat)).floor < U / L + 1 := by
    rw [Rat.floor_lt_iff, Rat.div_lt_iff hL', ← Rat.intCast_mul, Rat.intCast_lt_intCast]
    exact Int.lt_ediv_add_one_mul_self U hL
  omega
theorem taken_R (h : Hw) {U L : Int} (hL : 0 < L) : takenZ h (U / L) (U % L) L = tkR h ((U : Rat) / (L : Rat)) := by
  have hL' : (0 : Rat) < (L : Rat) := Rat.intCast_pos.mpr hL
  have e : (U : Rat) = (L : Rat) * ((U / L : Int) : Rat) + ((U % L : Int) : Rat) := by
    rw [← Rat.intCast_mul, ← Rat.intCast_add, Rat.intCast_inj]
    exact (Int.mul_ediv_add_emod U L).symm
  have e2 : (U : Rat) / (L : Rat) - ((U / L : Int) : Rat) = ((U % L : Int) : Rat) / (L : Rat) := by grind
  have c0 : (U : Rat) / (L : Rat) = ((U / L : Int) : Rat) ↔ U % L = 0 := by
    rw [← Rat.intCast_eq_zero_iff]
    constructor
    · intro q; grind
    · intro q; grind
  have c1 : 2 * ((U : Rat) / (L : Rat) - ((U / L : Int) : Rat)) = 1 ↔ 2 * (U % L) = L := by
    rw [e2, ← Rat.intCast_inj, Rat.intCast_mul]
    have : ((2 : Int) : Rat) = 2 := rfl
    rw [this]
    constructor
    · intro q; grind
    · intro q; grind
  have c2 : 1 < 2 * ((U : Rat) / (L : Rat) - ((U / L : Int) : Rat)) ↔ L < 2 * (U % L) := by
    rw [e2, ← Rat.intCast_lt_intCast, Rat.intCast_mul, show ∀ a b : Rat, 2 * (a / b) = (2 * a) / b from fun a b => by grind, Rat.lt_div_iff hL']
    have : ((2 : Int) : Rat) = 2 := rfl
    rw [this]
    constructor
    · intro q; grind
    · intro q; grind
  unfold tkR takenZ
  rw [floor_div hL]
  simp only [c0, c1, c2]
  all_goals (cases h <;> rfl)
/-- the values are read off -/
theorem tk_bound (h : Hw) (x : Rat) : x.floor ≤ tkR h x ∧ tkR h x ≤ x.floor + 1 := by
  unfold tkR
  split
  · omega
  · cases h <;> (repeat' split) <;> omega
theorem tk_int (h : Hw) (n : Int) : tkR h (n : Rat) = n := by
  unfold tkR
  rw [Rat.floor_intCast, if_pos rfl]
/-! stripped -/
theorem vl_strip : ∀ (n : Nat) (a b : Int), vl (strip n a b) = vl (a, b)
  | 0, _, _ => rfl
  | n + 1, a, b => by
    unfold strip
    by_cases h : a % 10 = 0
    · rw [if_pos h, vl_strip n]
      unfold vl
      have e : (a : Rat) = ((a / 10 : Int) : Rat) * 10 := by
        have : ((a : Int) : Rat) = (((a / 10) * 10 : Int) : Rat) := Rat.intCast_inj.mpr (by omega)
        rwa [Rat.intCast_mul] at this
      show ((a / 10 : Int) : Rat) * T (b + 1) = (a : Rat) * T b
      rw [T_add, T_one, e]
      grind
    · rw [if_neg h]
theorem strip_end : ∀ (n : Nat) (a b : Int), a ≠ 0 → a.natAbs < 10 ^ n → (strip n a b).1 % 10 ≠ 0
  | 0, a, b, h0, h => by
    have : (10 : Nat) ^ 0 = 1 := rfl
    omega
  | n + 1, a, b, h0, h => by
    unfold strip
    by_cases q : a % 10 = 0
    · rw [if_pos q]
      refine strip_end n _ _ (by omega) ?_
      have : (10 : Nat) ^ (n + 1) = 10 ^ n * 10 := Nat.pow_succ _ _
      omega
    · rw [if_neg q]; exact q
theorem figs_10 {a : Int} (h : 0 < a) (q : a % 10 = 0) : figs a.natAbs = figs (a / 10).natAbs + 1 := by
  have e : (a / 10).natAbs = a.natAbs / 10 := by omega
  rw [e]
  exact figs_step (by omega)
theorem hg_strip : ∀ (n : Nat) (a b : Int), 0 < a → hgZ (strip n a b) = hgZ (a, b)
  | 0, _, _, _ => rfl
  | n + 1, a, b, h => by
    unfold strip
    by_cases q : a % 10 = 0
    · rw [if_pos q, hg_strip n _ _ (by omega)]
      unfold hgZ
      have := figs_10 h q
      simp only
      omega
    · rw [if_neg q]
/-- a height tells a size -/
theorem hg_T {a b : Int} (h : 0 < a) : T (hgZ (a, b)) ≤ vl (a, b) ∧ vl (a, b) < T (hgZ (a, b) + 1) := by
  have h1 := figs_lt a.natAbs
  have h2 := figs_ge a.natAbs (by omega)
  have h3 := figs_pos a.natAbs
  unfold hgZ vl
  simp only
  have e1 : b + (figs a.natAbs : Int) - 1 = ((figs a.natAbs - 1 : Nat) : Int) + b := by omega
  have e2 : b + (figs a.natAbs : Int) - 1 + 1 = ((figs a.natAbs : Nat) : Int) + b := by omega
  rw [e2, e1, T_add, T_add, T_nat, T_nat]
  have a1 : ((10 : Int) ^ (figs a.natAbs - 1)) ≤ a := by
    have := Int.ofNat_le.mpr h2
    rw [Int.natCast_pow] at this
    have e : ((a.natAbs : Nat) : Int) = a := by omega
    rw [e] at this
    exact this
  have a2 : a < ((10 : Int) ^ (figs a.natAbs)) := by
    have := Int.ofNat_lt.mpr h1
    rw [Int.natCast_pow] at this
    have e : ((a.natAbs : Nat) : Int) = a := by omega
    rw [e] at this
    exact this
  exact ⟨Rat.mul_le_mul_of_nonneg_right (Rat.intCast_le_intCast.mpr a1) (Rat.le_of_lt (T_pos b)), Rat.mul_lt_mul_of_pos_right (Rat.intCast_lt_intCast.mpr a2) (T_pos b)⟩
theorem hg_hi {a b : Int} (h : 0 < a) (k : Int) : k < hgZ (a, b) ↔ T (k + 1) ≤ vl (a, b) := by
  obtain ⟨h1, h2⟩ := hg_T (b := b) h
  constructor
  · intro q
    have := T_mono (show k + 1 ≤ hgZ (a, b) by omega)
    grind
  · intro q
    have := T_lt_iff.mp (show T (k + 1) < T (hgZ (a, b) + 1) by grind)
    omega
theorem hg_lo {a b : Int} (h : 0 < a) (k : Int) : hgZ (a, b) < k ↔ vl (a, b) < T k := by
  have := hg_hi (b := b) h (k - 1)
  rw [show k - 1 + 1 = k by omega] at this
  grind
def NumOk (a b : Int) : Prop := (a = 0 ∧ b = 0) ∨ (a ≠ 0 ∧ a % 10 ≠ 0 ∧ a.natAbs < 10 ^ 8 ∧ -40 ≤ b + (figs a.natAbs : Int) - 1 ∧ b + (figs a.natAbs : Int) - 1 ≤ 40)
theorem vl_neg (s : Int × Int) : vl (-s.1, s.2) = -vl s := by
  unfold vl
  simp only
  rw [Rat.intCast_neg]
  grind
theorem vl_zero (b : Int) : vl (0, b) = 0 := by
  show ((0 : Int) : Rat) * T b = 0
  rw [Rat.intCast_zero, Rat.zero_mul]
/-- digits that end in no 0 are told by the value -/
theorem vl_inj {s t : Int × Int} (hs : s.1 % 10 ≠ 0) (ht : t.1 % 10 ≠ 0) (h : vl s = vl t) : s = t := by
  have key : ∀ (a b a' b' : Int), a % 10 ≠ 0 → a' % 10 ≠ 0 → b ≤ b' → vl (a, b) = vl (a', b') → a = a' ∧ b = b' := by
    intro a b a' b' h1 h2 hb e
    obtain ⟨n, hn⟩ := Int.eq_ofNat_of_zero_le (show 0 ≤ b' - b by omega)
    have e2 : b' = (n : Int) + b := by omega
    subst e2
    unfold vl at e
    simp only at e
    rw [T_add, T_nat] at e
    have hb := T_pos b
    have e3 : (a : Rat) = (a' : Rat) * ((10 ^ n : Int) : Rat) := mul_cancel hb (by rw [e, Rat.mul_assoc])
    rw [← Rat.intCast_mul, Rat.intCast_inj] at e3
    cases n with
    | zero => exact ⟨by simpa using e3, by simp⟩
    | succ n =>
      exfalso
      rw [Int.pow_succ, ← Int.mul_assoc] at e3
      omega
  obtain ⟨a, b⟩ := s
  obtain ⟨a', b'⟩ := t
  by_cases q : b ≤ b'
  · obtain ⟨h1, h2⟩ := key a b a' b' hs ht q h
    rw [h1, h2]
  · obtain ⟨h1, h2⟩ := key a' b' a b ht hs (by omega) h.symm
    rw [h1, h2]
/-! the rounded value -/
def pR (v : Rat) : Int := pwN v.num.natAbs v.den
theorem num_pos' {v : Rat} (h : 0 < v) : 0 < v.num := by
  have := (Rat.lt_iff 0 v).mp h
  simpa using this
theorem pR_of {v : Rat} (h : 0 < v) : PwOf v (pR v) := by
  have h1 := num_pos' h
  have := pw_R (U := v.num.natAbs) (L := v.den) (by omega) (by have := v.den_nz; omega)
  have e : (((v.num.natAbs : Nat) : Int) : Rat) / (((v.den : Nat) : Int) : Rat) = v := by
    rw [show ((v.num.natAbs : Nat) : Int) = v.num by omega, Rat.intCast_natCast]
    rw [← Rat.mkRat_eq_div]
    exact Rat.mkRat_self v
  rw [e] at this
  exact this
def rwR (h : Hw) (v : Rat) : Rat := (tkR h (v * T (-(pR v))) : Rat) * T (pR v)
def rd1 (h : Hw) (v : Rat) : Option Rat := if T 41 ≤ rwR h v then none else if rwR h v < T (-40) then some (if h = .more then T (-40) else 0) else some (rwR h v)
def rdR (m : Mn) (v : Rat) : Option Rat := if v = 0 then some 0 else if v < 0 then (rd1 (m.by true) (-v)).map (fun r => -r) else rd1 (m.by false) v
def ExIs : Option (Int × Int) → Option Rat → Prop
  | none, none => True
  | some s, some r => NumOk s.1 s.2 ∧ vl s = r
  | _, _ => False
theorem T_7 : T 7 = ((10000000 : Int) : Rat) := by
  rw [show (7 : Int) = ((7 : Nat) : Int) from rfl, T_nat]; rfl
theorem T_8 : T 8 = ((100000000 : Int) : Rat) := by
  rw [show (8 : Int) = ((8 : Nat) : Int) from rfl, T_nat]; rfl
/-- scaled, it has eight figures -/
theorem sc_bound {v : Rat} {p : Int} (h : PwOf v p) : T 7 ≤ v * T (-p) ∧ v * T (-p) < T 8 := by
  obtain ⟨h1, h2⟩ := h
  have hp := T_pos (-p)
  have a1 := Rat.mul_le_mul_of_nonneg_right h1 (Rat.le_of_lt hp)
  have a2 := Rat.mul_lt_mul_of_pos_right h2 hp
  rw [← T_add] at a1 a2
  rw [show p + 7 + -p = 7 by omega] at a1
  rw [show p + 8 + -p = 8 by omega] at a2
  exact ⟨a1, a2⟩
theorem tk_range (h : Hw) {v : Rat} {p : Int} (hp : PwOf v p) : 10000000 ≤ tkR h (v * T (-p)) ∧ tkR h (v * T (-p)) ≤ 100000000 := by
  obtain ⟨h1, h2⟩ := sc_bound hp
  rw [T_7] at h1
  rw [T_8] at h2
  have f1 := Rat.le_floor_iff.mpr h1
  have f2 := Rat.floor_lt_iff.mpr h2
  have := tk_bound h (v * T (-p))
  omega
theorem fit_R (h : Hw) {w p : Int} (bl : Bool) (hw : 0 < w) : fitZ h w p bl = if T 41 ≤ vl (w, p) then none else if vl (w, p) < T (-40) then (if h = .more then some (sgZ bl, -40) else some (0, 0)) else some (sgZ bl * (strip 5000 w p).1, (strip 5000 w p).2) := by
  unfold fitZ
  rw [hg_strip 5000 w p hw]
  have a := hg_hi (b := p) hw 40
  have b := hg_lo (b := p) hw (-40)
  rw [show (40 : Int) + 1 = 41 from rfl] at a
  simp only [a, b]
theorem NumOk.neg {a b : Int} (h : NumOk a b) : NumOk (-a) b := by
  unfold NumOk at *
  rw [Int.natAbs_neg]
  omega
theorem NumOk.sg {a b : Int} (h : NumOk a b) (bl : Bool) : NumOk (sgZ bl * a) b := by
  cases bl with
  | false => rw [show sgZ false = 1 from rfl, Int.one_mul]; exact h
  | true => rw [show sgZ true = -1 from rfl, Int.neg_one_mul]; exact h.neg
theorem one_ok : NumOk 1 (-40) := .inr ⟨by decide, by decide, by decide, by decide +kernel, by decide +kernel⟩
theorem zero_ok : NumOk 0 0 := .inl ⟨rfl, rfl⟩
theorem strip_ok {w p : Int} (h1 : 0 < w) (h2 : w ≤ 100000000) (h3 : ¬ T 41 ≤ vl (w, p)) (h4 : ¬ vl (w, p) < T (-40)) : NumOk (strip 5000 w p).1 (strip 5000 w p).2 := by
  obtain ⟨a1, a2, _, _⟩ := strip_pos 5000 w p h1
  have b8 : w.natAbs < 10 ^ 9 := by omega
  have e := strip_end 5000 w p (by omega) (Nat.lt_of_lt_of_le b8 (pow10_le (by decide)))
  have hg := hg_strip 5000 w p h1
  have a := hg_hi (b := p) h1 40
  have b := hg_lo (b := p) h1 (-40)
  rw [show (40 : Int) + 1 = 41 from rfl] at a
  rw [← a] at h3
  rw [← b] at h4
  rw [← hg] at h3 h4
  unfold hgZ at h3 h4
  refine .inr ⟨by omega, e, by omega, by omega, by omega⟩
theorem ex_fit (h : Hw) {v : Rat} {p : Int} (bl : Bool) (hv : 0 < v) (hp : PwOf v p) : ExIs (fitZ h (tkR h (v * T (-p))) p bl) ((rd1 h v).map fun r => (sgZ bl : Rat) * r) := by
  have e := pw_uniq hp (pR_of hv)
  subst e
  obtain ⟨w1, w2⟩ := tk_range h hp
  rw [fit_R h bl (by omega)]
  have er : vl (tkR h (v * T (-(pR v))), pR v) = rwR h v := rfl
  rw [er]
  unfold rd1
  by_cases c1 : T 41 ≤ rwR h v
  · rw [if_pos c1, if_pos c1]; trivial
  · rw [if_neg c1, if_neg c1]
    by_cases c2 : rwR h v < T (-40)
    · rw [if_pos c2, if_pos c2]
      by_cases c3 : h = .more
      · rw [if_pos c3, if_pos c3]
        refine ⟨?_, rfl⟩
        have := one_ok.sg bl
        rwa [Int.mul_one] at this
      · rw [if_neg c3, if_neg c3]
        refine ⟨zero_ok, ?_⟩
        rw [vl_zero]
        exact (Rat.mul_zero _).symm
    · rw [if_neg c2, if_neg c2]
      refine ⟨(strip_ok (by omega) w2 (by rw [er]; exact c1) (by rw [er]; exact c2)).sg bl, ?_⟩
      show ((sgZ bl * (strip 5000 _ _).1 : Int) : Rat) * T (strip 5000 _ _).2 = _
      rw [Rat.intCast_mul, Rat.mul_assoc]
      have := vl_strip 5000 (tkR h (v * T (-(pR v)))) (pR v)
      rw [er] at this
      rw [← this]
      rfl
theorem ex_R (m : Mn) {u l : Int} (hl : l ≠ 0) : ExIs (exZ m u l) (rdR m ((u : Rat) / (l : Rat))) := by
  unfold exZ rdR
  by_cases h0 : u = 0
  · subst h0
    have : ((0 : Int) : Rat) / (l : Rat) = 0 := by rw [Rat.intCast_zero]; grind
    rw [if_pos rfl, this, if_pos rfl]
    exact ⟨zero_ok, vl_zero 0⟩
  · rw [if_neg h0]
    have hU : 0 < u.natAbs := by omega
    have hL : 0 < l.natAbs := by omega
    have hp := pw_R hU hL
    have fr := frac_T (U := u.natAbs) hL (pwN u.natAbs l.natAbs)
    have ul : (0 : Rat) < ((u.natAbs : Int) : Rat) := Rat.intCast_pos.mpr (by omega)
    have ll : (0 : Rat) < ((l.natAbs : Int) : Rat) := Rat.intCast_pos.mpr (by omega)
    have hv : (0 : Rat) < ((u.natAbs : Int) : Rat) / ((l.natAbs : Int) : Rat) := by
      rw [Rat.lt_div_iff ll, Rat.zero_mul]; exact ul
    have l0 : 0 < (l.natAbs : Int) * 10 ^ (pwN u.natAbs l.natAbs).toNat := Int.mul_pos (by omega) (by have := pow_ge1 (pwN u.natAbs l.natAbs).toNat; omega)
    have sv : (u : Rat) / (l : Rat) = (sgZ (decide (u < 0) != decide (l < 0)) : Rat) * (((u.natAbs : Int) : Rat) / ((l.natAbs : Int) : Rat)) := by
      by_cases c1 : u < 0 <;> by_cases c2 : l < 0
      · rw [decide_eq_true c1, decide_eq_true c2, show (u.natAbs : Int) = -u by omega, show (l.natAbs : Int) = -l by omega, Rat.intCast_neg, Rat.intCast_neg]
        show _ = ((1 : Int) : Rat) * _
        have : ((1 : Int) : Rat) = 1 := rfl
        grind
      · rw [decide_eq_true c1, decide_eq_false c2, show (u.natAbs : Int) = -u by omega, show (l.natAbs : Int) = l by omega, Rat.intCast_neg]
        show _ = ((-1 : Int) : Rat) * _
        have : ((-1 : Int) : Rat) = -1 := rfl
        grind
      · rw [decide_eq_false c1, decide_eq_true c2, show (u.natAbs : Int) = u by omega, show (l.natAbs : Int) = -l by omega, Rat.intCast_neg]
        show _ = ((-1 : Int) : Rat) * _
        have : ((-1 : Int) : Rat) = -1 := rfl
        grind
      · rw [decide_eq_false c1, decide_eq_false c2, show (u.natAbs : Int) = u by omega, show (l.natAbs : Int) = l by omega]
        show _ = ((1 : Int) : Rat) * _
        have : ((1 : Int) : Rat) = 1 := rfl
        grind
    rw [sv]
    simp only [taken_R _ l0, ← fr]
    generalize ((u.natAbs : Int) : Rat) / ((l.natAbs : Int) : Rat) = v at *
    generalize (decide (u < 0) != decide (l < 0)) = bl at *
    have q := ex_fit (m.by bl) bl hv hp
    cases bl with
    | false =>
      have e1 : (sgZ false : Rat) * v = v := by rw [show sgZ false = 1 from rfl]; exact Rat.one_mul v
      rw [e1, if_neg (by grind), if_neg (by grind)]
      have e2 : (rd1 (m.by false) v).map (fun r => (sgZ false : Rat) * r) = rd1 (m.by false) v := by
        cases rd1 (m.by false) v with
        | none => rfl
        | some r => exact congrArg some (Rat.one_mul r)
      rw [e2] at q
      exact q
    | true =>
      have e0 : (sgZ true : Rat) = -1 := rfl
      have e1 : (sgZ true : Rat) * v = -v := by rw [e0]; grind
      rw [e1, if_neg (by grind), if_pos (by grind), Rat.neg_neg]
      have e2 : (rd1 (m.by true) v).map (fun r => (sgZ true : Rat) * r) = (rd1 (m.by true) v).map (fun r => -r) := by
        congr 1
        funext r
        rw [e0]; grind
      rw [e2] at q
      exact q
/-! ### laws of rounding -/
/-! numbers are kept -/
theorem fix1 (h : Hw) {a b : Int} (ha : 0 < a) (ok : NumOk a b) : rd1 h (vl (a, b)) = some (vl (a, b)) := by
  rcases ok with ⟨z, _⟩ | ⟨_, _, h3, h4, h5⟩
  · omega
  have hv : 0 < vl (a, b) := Rat.mul_pos (Rat.intCast_pos.mpr ha) (T_pos b)
  obtain ⟨t1, t2⟩ := hg_T (b := b) ha
  have hp := pR_of hv
  have hh : hgZ (a, b) = b + (figs a.natAbs : Int) - 1 := rfl
  rw [← hh] at h4 h5
  have ep : pR (vl (a, b)) = hgZ (a, b) - 7 := pw_uniq hp ⟨by rw [show hgZ (a, b) - 7 + 7 = hgZ (a, b) by omega]; exact t1, by rw [show hgZ (a, b) - 7 + 8 = hgZ (a, b) + 1 by omega]; exact t2⟩
  have fl := figs_le (k := 8) (by decide) h3
  obtain ⟨n, hn⟩ := Int.eq_ofNat_of_zero_le (show 0 ≤ b - pR (vl (a, b)) by rw [ep, hh]; omega)
  have e1 : vl (a, b) * T (-(pR (vl (a, b)))) = ((a * 10 ^ n : Int) : Rat) := by
    rw [Rat.intCast_mul, ← T_nat, ← hn]
    show (a : Rat) * T b * T (-(pR (vl (a, b)))) = _
    rw [Rat.mul_assoc, ← T_add]
    rfl
  have er : rwR h (vl (a, b)) = vl (a, b) := by
    unfold rwR
    rw [e1, tk_int, ← e1, Rat.mul_assoc, ← T_add, show -(pR (vl (a, b))) + pR (vl (a, b)) = 0 by omega, T_zero, Rat.mul_one]
  unfold rd1
  rw [er, if_neg, if_neg]
  · have := T_mono h4
    grind
  · have := T_mono (show hgZ (a, b) + 1 ≤ 41 by omega)
    grind
theorem rd_fix (m : Mn) {a b : Int} (ok : NumOk a b) : rdR m (vl (a, b)) = some (vl (a, b)) := by
  by_cases h0 : a = 0
  · subst h0
    rw [vl_zero]
    exact if_pos rfl
  · unfold rdR
    have e : vl (-a, b) = -vl (a, b) := vl_neg (a, b)
    by_cases h1 : 0 < a
    · have hv : 0 < vl (a, b) := Rat.mul_pos (Rat.intCast_pos.mpr h1) (T_pos b)
      rw [if_neg (by grind), if_neg (by grind), fix1 _ h1 ok]
    · have hv : 0 < vl (-a, b) := Rat.mul_pos (Rat.intCast_pos.mpr (by omega)) (T_pos b)
      rw [if_neg (by grind), if_pos (by grind), ← e, fix1 _ (by omega) ok.neg, e]
      exact congrArg some (Rat.neg_neg _)
theorem num_inj {s t : Int × Int} (hs : NumOk s.1 s.2) (ht : NumOk t.1 t.2) (h : vl s = vl t) : s = t := by
  obtain ⟨a, b⟩ := s
  obtain ⟨c, d⟩ := t
  have key : ∀ a b : Int, a ≠ 0 → vl (a, b) ≠ 0 := fun a b ha z => by
    rcases Rat.mul_eq_zero.mp z with z | z
    · exact ha (Rat.intCast_eq_zero_iff.mp z)
    · have := T_pos b
      grind
  rcases hs with ⟨h1, h2⟩ | ⟨h1, h2, _⟩
  · rcases ht with ⟨g1, g2⟩ | ⟨g1, g2, _⟩
    · simp only at h1 h2 g1 g2
      rw [h1, h2, g1, g2]
    · simp only at h1
      subst h1
      rw [vl_zero] at h
      exact absurd h.symm (key _ _ g1)
  · rcases ht with ⟨g1, g2⟩ | ⟨g1, g2, _⟩
    · simp only at g1
      subst g1
      rw [vl_zero] at h
      exact absurd h (key _ _ h1)
    · exact vl_inj h2 g2 h
theorem ExIs.uniq {x y : Option (Int × Int)} {r : Option Rat} (hx : ExIs x r) (hy : ExIs y r) : x = y := by
  cases x with
  | none =>
    cases y with
    | none => rfl
    | some t => cases r <;> simp [ExIs] at hx hy
  | some s =>
    cases r with
    | none => exact hx.elim
    | some r =>
      cases y with
      | none => exact hy.elim
      | some t => exact congrArg some (num_inj hx.1 hy.1 (hx.2.trans hy.2.symm))
/-- the value alone tells -/
theorem ex_same (m : Mn) {u l u' l' : Int} (hl : l ≠ 0) (hl' : l' ≠ 0) (h : (u : Rat) / (l : Rat) = (u' : Rat) / (l' : Rat)) : exZ m u l = exZ m u' l' := by
  have a := ex_R m (u := u) hl
  have b := ex_R m (u := u') hl'
  rw [h] at a
  exact a.uniq b
def neg1 (s : Int × Int) : Int × Int := (-s.1, s.2)
theorem ex_fix (m : Mn) {u l a b : Int} (hl : l ≠ 0) (ok : NumOk a b) (h : (u : Rat) / (l : Rat) = vl (a, b)) : exZ m u l = some (a, b) := by
  have x := ex_R m (u := u) hl
  rw [h, rd_fix m ok] at x
  exact x.uniq ⟨ok, rfl⟩
theorem ex_some (m : Mn) {u l : Int} {s : Int × Int} (hl : l ≠ 0) (h : exZ m u l = some s) : NumOk s.1 s.2 ∧ rdR m ((u : Rat) / (l : Rat)) = some (vl s) := by
  have x := ex_R m (u := u) hl
  rw [h] at x
  cases y : rdR m ((u : Rat) / (l : Rat)) with
  | none => rw [y] at x; exact x.elim
  | some r => rw [y] at x; exact ⟨x.1, by rw [x.2]⟩
/-! down and up -/
/-! as functions of the value -/
def exV (m : Mn) (v : Rat) : Option (Int × Int) := exZ m v.num (v.den : Int)
theorem num_den (v : Rat) : ((v.num : Int) : Rat) / (((v.den : Nat) : Int) : Rat) = v := by
  rw [Rat.intCast_natCast, ← Rat.mkRat_eq_div]
  exact Rat.mkRat_self v
theorem den_ne (v : Rat) : ((v.den : Nat) : Int) ≠ 0 := by have := v.den_nz; omega
theorem ex_V (m : Mn) {u l : Int} (hl : l ≠ 0) : exZ m u l = exV m ((u : Rat) / (l : Rat)) := ex_same m hl (den_ne _) (num_den _).symm
theorem exV_some {m : Mn} {v : Rat} {s : Int × Int} (h : exV m v = some s) : NumOk s.1 s.2 ∧ rdR m v = some (vl s) := by
  have := ex_some m (den_ne v) h
  rw [num_den] at this
  exact this
theorem vl_at {a b p : Int} (h : p ≤ b) : vl (a, b) = ((a * 10 ^ (b - p).toNat : Int) : Rat) * T p := by
  unfold vl
  simp only
  rw [Rat.intCast_mul, ← T_nat, Rat.mul_assoc, ← T_add]
  congr 2
  omega
theorem frac_val (u p : Int) : ((u * 10 ^ p.toNat : Int) : Rat) / ((10 ^ (-p).toNat : Int) : Rat) = (u : Rat) * T p := by
  rw [Rat.intCast_mul, ← T_nat, ← T_nat]
  have e : T p * T ((-p).toNat : Int) = T (p.toNat : Int) := by rw [← T_add]; congr 1; omega
  have h := T_pos ((-p).toNat : Int)
  rw [← e, ← Rat.mul_assoc, Rat.mul_div_cancel (by grind)]
end LW
namespace LW
open PySem PySem.Spec PyProof.Rows L2 DN
/-! ### a sign sought in a text -/
def posF (c : Nat) : List Nat → Nat → List Nat
  | [], _ => []
  | a :: r, k => if a = c then k :: posF c r (k + 1) else posF c r (k + 1)
theorem sub_one {l : List Nat} {c i : Nat} : (i + (S [c]).length ≤ (S l).length ∧ Builtin.Str.subAt (S l) (S [c]) i = true) ↔ l[i]? = some c := by
  have := StrLaws.subAt_one (S l) c i
  rw [S_tl] at this
  exact this
theorem occ_loop (c lim : Nat) (l : List Nat) : ∀ (n k f : Nat) (arr : Array Nat), n = l.length + 1 - k → k ≤ l.length → f ≤ k →
    (forIn (List.range' k n) (arr, f) (StrLaws.occBody (S l) (S [c]) l.length lim)).run.fst.toList = arr.toList ++ (posF c (l.drop k) k).take (lim - arr.size)
  | 0, k, f, arr, hn, hk, hf => by omega
  | n + 1, k, f, arr, hn, hk, hf => by
    rw [List.range'_succ, List.forIn_cons]
    unfold StrLaws.occBody
    have sl : (S [c]).length = 1 := S_len [c]
    have ls : (S l).length = l.length := S_len l
    by_cases hkl : k < l.length
    · have hd : l.drop k = l[k] :: l.drop (k + 1) := List.drop_eq_getElem_cons hkl
      have ge : l[k]? = some l[k] := List.getElem?_eq_getElem hkl
      have so := sub_one (l := l) (c := c) (i := k)
      rw [ge, sl, ls] at so
      rw [hd]
      unfold posF
      by_cases hc : l[k] = c
      · have s2 := so.mpr (by rw [hc])
        rw [if_pos hc]
        by_cases hz : arr.size < lim
        · rw [if_pos (by exact ⟨⟨⟨hz, hf⟩, by rw [sl]; exact s2.1⟩, s2.2⟩)]
          have ih := occ_loop c lim l n (k + 1) (k + (S [c]).length) (arr.push k) (by omega) (by omega) (by omega)
          refine Eq.trans ih ?_
          rw [Array.toList_push, Array.size_push, List.append_assoc]
          congr 1
          obtain ⟨z, hz⟩ : ∃ z, lim - arr.size = z + 1 := ⟨lim - arr.size - 1, by omega⟩
          rw [hz, List.take_succ_cons, show lim - (arr.size + 1) = z by omega]
          rfl
        · rw [if_neg (by intro h; exact hz h.1.1.1)]
          have ih := occ_loop c lim l n (k + 1) f arr (by omega) (by omega) (by omega)
          refine Eq.trans ih ?_
          rw [show lim - arr.size = 0 by omega, List.take_zero, List.take_zero]
      · rw [if_neg hc, if_neg (by
          intro h
          have := so.mp ⟨by have := h.1.2; rw [sl] at this; exact this, h.2⟩
          exact hc (Option.some.inj this))]
        exact occ_loop c lim l n (k + 1) f arr (by omega) (by omega) (by omega)
    · have hkl : k = l.length := by omega
      subst hkl
      have n0 : n = 0 := by omega
      subst n0
      rw [if_neg (by
        intro h
        have := h.1.2
        rw [sl] at this
        omega)]
      rw [List.drop_length]
      show arr.toList = arr.toList ++ List.take _ (posF c [] l.length)
      unfold posF
      simp
theorem occ_pos (c lim : Nat) (l : List Nat) : Builtin.Str.occurrences (S l) (S [c]) 0 (S l).length lim = (posF c l 0).take lim := by
  rw [StrLaws.occ_eq, S_len]
  have := occ_loop c lim l (l.length + 1 - 0) 0 0 #[] rfl (by omega) (by omega)
  simpa using this
theorem pos_none {c : Nat} : ∀ {l : List Nat} (k : Nat), c ∉ l → posF c l k = []
  | [], _, _ => rfl
  | a :: r, k, h => by
    unfold posF
    rw [if_neg (show ¬ a = c from fun z => h (by rw [z]; exact List.mem_cons_self))]
    exact pos_none (k + 1) fun z => h (List.mem_cons_of_mem _ z)
theorem pos_app {c : Nat} : ∀ {a : List Nat} (b : List Nat) (k : Nat), c ∉ a → posF c (a ++ c :: b) k = (k + a.length) :: posF c b (k + a.length + 1)
  | [], b, k, _ => by
    show posF c (c :: b) k = _
    rw [posF, if_pos rfl]
    rfl
  | x :: r, b, k, h => by
    show posF c (x :: (r ++ c :: b)) k = _
    rw [posF, if_neg (show ¬ x = c from fun z => h (by rw [z]; exact List.mem_cons_self)), pos_app b (k + 1) fun z => h (List.mem_cons_of_mem _ z), List.length_cons]
    congr 1
    · omega
    · congr 1
      omega
theorem sub_S (l : List Nat) (i j : Nat) : Builtin.Str.strSub (S l) i j = S ((l.drop i).take (j - i)) := S_of (by rw [StrLaws.strSub_toList, S_tl])
theorem part_none {c : Nat} {l : List Nat} (h : c ∉ l) : Txt.partition (S l) (S [c]) = (S l, S [], S []) := by
  unfold Txt.partition
  rw [occ_pos, pos_none 0 h]
  rfl
theorem part_some {c : Nat} {a b : List Nat} (h : c ∉ a) : Txt.partition (S (a ++ c :: b)) (S [c]) = (S a, S [c], S b) := by
  unfold Txt.partition
  rw [occ_pos, pos_app b 0 h]
  show (Builtin.Str.strSub (S (a ++ c :: b)) 0 (0 + a.length), S [c], Builtin.Str.strSub (S (a ++ c :: b)) (0 + a.length + (S [c]).length) (S (a ++ c :: b)).length) = _
  rw [sub_S, sub_S, S_len, S_len]
  have e1 : List.take (0 + a.length - 0) (List.drop 0 (a ++ c :: b)) = a := by simp
  have e2 : List.take ((a ++ c :: b).length - (0 + a.length + [c].length)) (List.drop (0 + a.length + [c].length) (a ++ c :: b)) = b := by
    have d : List.drop (0 + a.length + [c].length) (a ++ c :: b) = b := by
      rw [show a ++ c :: b = (a ++ [c]) ++ b by simp, show 0 + a.length + [c].length = (a ++ [c]).length by simp, List.drop_left]
    rw [d]
    exact List.take_of_length_le (by simp; omega)
  rw [e1, e2]
end LW
namespace LW
open PySem PySem.Spec PyProof.Rows L2 DN
open TL (numL numL_lt numL_step numL_digits numL_ne tl_num)
open NumText (AllDigits digitsVal)
local macro_rules | `(tactic| walk_at "ev") => `(tactic| simp -implicitDefEqProofs (disch := first | omega | (simp only [List.length_cons, List.length_nil]; omega)) only [mkTR_ok, mkLR_ok, ix_tm, ix_lm, ix_t0, ix_t1, ix_t2, ix_t3, ix_t4, ix_t5, ix_t6, ix_t7, ix_l0, ix_l1, ix_l2, ix_l3, ix_l4, ix_l5, ix_l6, ix_l7, bin_def, una_def, cal_def, acons_def, anil_def, con_def, callD_def, tst_def, sseq_def, sret_def, sasg_def, sif_def, sskip_def, sraise_def, andQ_def, orQ_def, notQ_def, andE_def, orE_def, notE_def, mkT_def, mkL_def, slc_def, psm_def, pno_def, sfor_def, chn_def, var_zero, var_succ, app2_ok, app1_ok, appL_ok, consR_ok, ofO_some, call0, call1, call2, call3, call4, call5, tstR_ok, seqR_nx, seqR_rt, seqR_ex, retR_ok, retR_ex, asgR_n, asgR_ex, asgR_2, asgR_2L, asgR_3, ifR_t, ifR_f, finR_rt, finR_nx, finR_ex, andR_t, andR_f, orR_t, orR_f, notR_ok, andER_t, andER_f, orER_t, orER_f, notER_ok, psmR_ok, slcR_ok, forR_ok, chn_le, chn_lt, add_ii, sub_ii, neg_i, lt_ii, le_ii, gt_ii, ge_ii, eq_ii, ne_ii, eq_ss, ne_ss, eq_bb, ne_bb, mul_l, mul_r, div_s, mod_p, len_t, len_l, len_a, abs_i, max_ii, min_ii, int_i, int_b, int_t, int_f, List.set_cons_zero, List.set_cons_succ, Bool.not_true, Bool.not_false, decide_true, decide_false, sown_def, ownRR_ok, frz_lst, frz_z, frz_u, frz_succ, sfrz_def, bor_def, borQ_def, flat_i, flat_s, flat_b, flat_n, own_zero, own_succ, sapp_def, sput_def, ixO_def])
local macro_rules | `(tactic| simp?! [$ls,*]) => `(tactic| simp -implicitDefEqProofs (disch := first | omega | (simp only [List.length_cons, List.length_nil]; omega)) only [mkTR_ok, mkLR_ok, ix_tm, ix_lm, ix_t0, ix_t1, ix_t2, ix_t3, ix_t4, ix_t5, ix_t6, ix_t7, ix_l0, ix_l1, ix_l2, ix_l3, ix_l4, ix_l5, ix_l6, ix_l7, bin_def, una_def, cal_def, acons_def, anil_def, con_def, callD_def, tst_def, sseq_def, sret_def, sasg_def, sif_def, sskip_def, sraise_def, andQ_def, orQ_def, notQ_def, andE_def, orE_def, notE_def, mkT_def, mkL_def, slc_def, psm_def, pno_def, sfor_def, chn_def, var_zero, var_succ, app2_ok, app1_ok, appL_ok, consR_ok, ofO_some, call0, call1, call2, call3, call4, call5, tstR_ok, seqR_nx, seqR_rt, seqR_ex, retR_ok, retR_ex, asgR_n, asgR_ex, asgR_2, asgR_2L, asgR_3, ifR_t, ifR_f, finR_rt, finR_nx, finR_ex, andR_t, andR_f, orR_t, orR_f, notR_ok, andER_t, andER_f, orER_t, orER_f, notER_ok, psmR_ok, slcR_ok, forR_ok, chn_le, chn_lt, add_ii, sub_ii, neg_i, lt_ii, le_ii, gt_ii, ge_ii, eq_ii, ne_ii, eq_ss, ne_ss, eq_bb, ne_bb, mul_l, mul_r, div_s, mod_p, len_t, len_l, len_a, abs_i, max_ii, min_ii, int_i, int_b, int_t, int_f, List.set_cons_zero, List.set_cons_succ, Bool.not_true, Bool.not_false, decide_true, decide_false, sown_def, ownRR_ok, frz_lst, frz_z, frz_u, frz_succ, sfrz_def, bor_def, borQ_def, flat_i, flat_s, flat_b, flat_n, own_zero, own_succ, sapp_def, sput_def, ixO_def, $ls,*])
def N_ten : List Str := ["power"]
def g_ten : Rho → SR :=
  (sret (cal intD (acons (bop addD (con (.str "1")) (bop mulD (con (.str "0")) (var 0))) anil)))
def d_ten (ds : List D) : Res D := runB 1 g_ten ds
theorem v_ten {a0 : D} : d_ten [a0] = finR (g_ten [.z a0]) := runB_eq rfl
def N_figures_of : List Str := ["whole"]
def g_figures_of : Rho → SR :=
  (sret (cal lenD (acons (cal strD (acons (cal absD (acons (var 0) anil)) anil)) anil)))
def d_figures_of (ds : List D) : Res D := runB 1 g_figures_of ds
theorem v_figures_of {a0 : D} : d_figures_of [a0] = finR (g_figures_of [.z a0]) := runB_eq rfl
def N_height : List Str := ["number"]
def g_height : Rho → SR :=
  (sret (bop subD (bop addD (bop ixD (var 0) (con (.int 1))) (callD 1 d_figures_of (acons (bop ixD (var 0) (con (.int 0))) anil))) (con (.int 1))))
def d_height (ds : List D) : Res D := runB 1 g_height ds
theorem v_height {a0 : D} : d_height [a0] = finR (g_height [.z a0]) := runB_eq rfl
def N__law_cell_at : List Str := ["script", "k"]
def t1__law_cell_at : Rho → SR :=
  (sret (con (.int 0)))
def g__law_cell_at : Rho → SR :=
  sseq (sif (tst (bop ltD (var 1) (cal lenD (acons (var 0) anil)))) (sret (bop ixD (var 0) (var 1))) sskip) (t1__law_cell_at)
def d__law_cell_at (ds : List D) : Res D := runB 2 g__law_cell_at ds
theorem v__law_cell_at {a0 a1 : D} : d__law_cell_at [a0, a1] = finR (g__law_cell_at [.z a0, .z a1]) := runB_eq rfl
def N__law_mixed : List Str := ["script", "k", "drawn"]
def t1__law_mixed : Rho → SR :=
  (sret (bop modD (bop addD (bop addD (bop mulD (var 2) (var 2)) (bop mulD (con (.int 7)) (var 2))) (var 1)) (con (.int 2147483629))))
def g__law_mixed : Rho → SR :=
  sseq (sasg (bop modD (bop mulD (bop addD (bop addD (callD 2 d__law_cell_at (acons (var 0) (acons (var 1) anil))) (bop mulD (con (.int 7919)) (var 1))) (con (.int 1))) (con (.int 48271))) (con (.int 2147483647))) (gn 2)) (t1__law_mixed)
def d__law_mixed (ds : List D) : Res D := runB 3 g__law_mixed ds
theorem v__law_mixed {a0 a1 : D} : d__law_mixed [a0, a1] = finR (g__law_mixed [.z a0, .z a1, .u]) := runB_eq rfl
def N__law_drawn : List Str := ["number", "k", "drawn"]
def t1__law_drawn : Rho → SR :=
  (sret (bop modD (bop addD (bop addD (bop mulD (var 2) (var 2)) (bop mulD (con (.int 3)) (var 2))) (var 1)) (con (.int 2147483629))))
def g__law_drawn : Rho → SR :=
  sseq (sasg (bop modD (bop mulD (bop addD (bop addD (var 0) (bop mulD (con (.int 104729)) (var 1))) (con (.int 17))) (con (.int 69621))) (con (.int 2147483647))) (gn 2)) (t1__law_drawn)
def d__law_drawn (ds : List D) : Res D := runB 3 g__law_drawn ds
theorem v__law_drawn {a0 a1 : D} : d__law_drawn [a0, a1] = finR (g__law_drawn [.z a0, .z a1, .u]) := runB_eq rfl
def N_taken : List Str := ["whole", "rest", "lower", "manner"]
def t3_taken : Rho → SR :=
  (sret (bop addD (var 0) (cal intD (acons (bop gtD (bop mulD (con (.int 2)) (var 1)) (var 2)) anil))))
def t2_taken : Rho → SR :=
  sseq (sif (tst (bop eqD (bop mulD (con (.int 2)) (var 1)) (var 2))) (sret (bop addD (var 0) (cal intD (acons (orE (bop eqD (var 3) (con (.str "away"))) (bop eqD (bop modD (var 0) (con (.int 2))) (con (.int 1)))) anil)))) sskip) (t3_taken)
def t1_taken : Rho → SR :=
  sseq (sif (tst (bop eqD (var 3) (con (.str "more")))) (sret (bop addD (var 0) (con (.int 1)))) sskip) (t2_taken)
def g_taken : Rho → SR :=
  sseq (sif (orQ (tst (bop eqD (var 1) (con (.int 0)))) (tst (bop eqD (var 3) (con (.str "nought"))))) (sret (var 0)) sskip) (t1_taken)
def d_taken (ds : List D) : Res D := runB 4 g_taken ds
theorem v_taken {a0 a1 a2 a3 : D} : d_taken [a0, a1, a2, a3] = finR (g_taken [.z a0, .z a1, .z a2, .z a3]) := runB_eq rfl
def N_by_size : List Str := ["manner", "below"]
def t2_by_size : Rho → SR :=
  (sret (var 0))
def t1_by_size : Rho → SR :=
  sseq (sif (tst (bop eqD (var 0) (con (.str "down")))) (sret (bop ixD (mkL (acons (con (.str "nought")) (acons (con (.str "more")) anil))) (cal intD (acons (var 1) anil)))) sskip) (t2_by_size)
def g_by_size : Rho → SR :=
  sseq (sif (tst (bop eqD (var 0) (con (.str "up")))) (sret (bop ixD (mkL (acons (con (.str "more")) (acons (con (.str "nought")) anil))) (cal intD (acons (var 1) anil)))) sskip) (t1_by_size)
def d_by_size (ds : List D) : Res D := runB 2 g_by_size ds
theorem v_by_size {a0 a1 : D} : d_by_size [a0, a1] = finR (g_by_size [.z a0, .z a1]) := runB_eq rfl
def N_fitted : List Str := ["whole", "power", "below", "manner", "sign"]
def c1_fitted : Rho → Res Bool :=
  (tst (bop eqD (bop modD (var 0) (con (.int 10))) (con (.int 0))))
def b2_fitted : Rho → SR :=
  (sseq (sasg (bop divD (var 0) (con (.int 10))) (gn 0))
    (sasg (bop addD (var 1) (con (.int 1))) (gn 1)))
def t5_fitted : Rho → SR :=
  (sret (mkT (acons (bop mulD (var 4) (var 0)) (acons (var 1) anil))))
def t4_fitted : Rho → SR :=
  sseq (sif (tst (bop ltD (callD 1 d_height (acons (mkT (acons (var 0) (acons (var 1) anil))) anil)) (una negD (con (.int 40))))) (sseq (sif (tst (bop eqD (var 3) (con (.str "more")))) (sret (mkT (acons (var 4) (acons (una negD (con (.int 40))) anil)))) sskip)
    (sret (mkT (acons (con (.int 0)) (acons (con (.int 0)) anil))))) sskip) (t5_fitted)
def t3_fitted : Rho → SR :=
  sseq (sif (tst (bop gtD (callD 1 d_height (acons (mkT (acons (var 0) (acons (var 1) anil))) anil)) (con (.int 40)))) (sraise "TooGreat") sskip) (t4_fitted)
def t2_fitted : Rho → SR :=
  sseq (sasg (bop subD (con (.int 1)) (bop mulD (con (.int 2)) (cal intD (acons (var 2) anil)))) (gn 4)) (t3_fitted)
def t1_fitted : Rho → SR :=
  sseq (whileD c1_fitted b2_fitted 100000) (t2_fitted)
def g_fitted : Rho → SR :=
  sseq (sif (tst (bop eqD (var 0) (con (.int 0)))) (sret (mkT (acons (con (.int 0)) (acons (con (.int 0)) anil)))) sskip) (t1_fitted)
def d_fitted (ds : List D) : Res D := runB 5 g_fitted ds
theorem v_fitted {a0 a1 a2 a3 : D} : d_fitted [a0, a1, a2, a3] = finR (g_fitted [.z a0, .z a1, .z a2, .z a3, .u]) := runB_eq rfl
def N_power_for : List Str := ["upper", "lower", "power"]
def c1_power_for : Rho → Res Bool :=
  (tst (bop geD (bop mulD (var 0) (callD 1 d_ten (acons (cal maxD (acons (una negD (var 2)) (acons (con (.int 0)) anil))) anil))) (bop mulD (bop mulD (var 1) (callD 1 d_ten (acons (cal maxD (acons (var 2) (acons (con (.int 0)) anil))) anil))) (callD 1 d_ten (acons (con (.int 8)) anil)))))
def b2_power_for : Rho → SR :=
  (sasg (bop addD (var 2) (con (.int 1))) (gn 2))
def t2_power_for : Rho → SR :=
  (sret (var 2))
def t1_power_for : Rho → SR :=
  sseq (whileD c1_power_for b2_power_for 100000) (t2_power_for)
def g_power_for : Rho → SR :=
  sseq (sasg (bop subD (bop subD (callD 1 d_figures_of (acons (var 0) anil)) (callD 1 d_figures_of (acons (var 1) anil))) (con (.int 8))) (gn 2)) (t1_power_for)
def d_power_for (ds : List D) : Res D := runB 3 g_power_for ds
theorem v_power_for {a0 a1 : D} : d_power_for [a0, a1] = finR (g_power_for [.z a0, .z a1, .u]) := runB_eq rfl
def N_exact : List Str := ["upper", "lower", "manner", "below", "power", "how"]
def t8_exact : Rho → SR :=
  (sret (callD 4 d_fitted (acons (callD 4 d_taken (acons (bop divD (var 0) (var 1)) (acons (bop modD (var 0) (var 1)) (acons (var 1) (acons (var 5) anil))))) (acons (var 4) (acons (var 3) (acons (var 5) anil))))))
def t7_exact : Rho → SR :=
  sseq (sasg (callD 2 d_by_size (acons (var 2) (acons (var 3) anil))) (gn 5)) (t8_exact)
def t6_exact : Rho → SR :=
  sseq (sasg (bop mulD (var 1) (callD 1 d_ten (acons (cal maxD (acons (var 4) (acons (con (.int 0)) anil))) anil))) (gn 1)) (t7_exact)
def t5_exact : Rho → SR :=
  sseq (sasg (bop mulD (var 0) (callD 1 d_ten (acons (cal maxD (acons (una negD (var 4)) (acons (con (.int 0)) anil))) anil))) (gn 0)) (t6_exact)
def t4_exact : Rho → SR :=
  sseq (sasg (callD 2 d_power_for (acons (var 0) (acons (var 1) anil))) (gn 4)) (t5_exact)
def t3_exact : Rho → SR :=
  sseq (sasg (cal absD (acons (var 1) anil)) (gn 1)) (t4_exact)
def t2_exact : Rho → SR :=
  sseq (sasg (cal absD (acons (var 0) anil)) (gn 0)) (t3_exact)
def t1_exact : Rho → SR :=
  sseq (sasg (bop neD (bop ltD (var 0) (con (.int 0))) (bop ltD (var 1) (con (.int 0)))) (gn 3)) (t2_exact)
def g_exact : Rho → SR :=
  sseq (sif (tst (bop eqD (var 0) (con (.int 0)))) (sret (mkT (acons (con (.int 0)) (acons (con (.int 0)) anil)))) sskip) (t1_exact)
def d_exact (ds : List D) : Res D := runB 6 g_exact ds
theorem v_exact {a0 a1 a2 : D} : d_exact [a0, a1, a2] = finR (g_exact [.z a0, .z a1, .z a2, .u, .u, .u]) := runB_eq rfl
def N__law_manner : List Str := ["number"]
def g__law_manner : Rho → SR :=
  (sret (bop ixD (mkT (acons (con (.str "even")) (acons (con (.str "away")) (acons (con (.str "nought")) (acons (con (.str "up")) (acons (con (.str "down")) anil)))))) (bop modD (var 0) (con (.int 5)))))
def d__law_manner (ds : List D) : Res D := runB 1 g__law_manner ds
theorem v__law_manner {a0 : D} : d__law_manner [a0] = finR (g__law_manner [.z a0]) := runB_eq rfl
def N_level : List Str := ["one", "other", "power"]
def t1_level : Rho → SR :=
  (sret (mkT (acons (bop mulD (bop ixD (var 0) (con (.int 0))) (callD 1 d_ten (acons (bop subD (bop ixD (var 0) (con (.int 1))) (var 2)) anil))) (acons (bop mulD (bop ixD (var 1) (con (.int 0))) (callD 1 d_ten (acons (bop subD (bop ixD (var 1) (con (.int 1))) (var 2)) anil))) (acons (var 2) anil)))))
def g_level : Rho → SR :=
  sseq (sasg (cal minD (acons (bop ixD (var 0) (con (.int 1))) (acons (bop ixD (var 1) (con (.int 1))) anil))) (gn 2)) (t1_level)
def d_level (ds : List D) : Res D := runB 3 g_level ds
theorem v_level {a0 a1 : D} : d_level [a0, a1] = finR (g_level [.z a0, .z a1, .u]) := runB_eq rfl
def N_of_power : List Str := ["whole", "power", "manner"]
def g_of_power : Rho → SR :=
  (sret (callD 3 d_exact (acons (bop mulD (var 0) (callD 1 d_ten (acons (cal maxD (acons (var 1) (acons (con (.int 0)) anil))) anil))) (acons (callD 1 d_ten (acons (cal maxD (acons (una negD (var 1)) (acons (con (.int 0)) anil))) anil)) (acons (var 2) anil)))))
def d_of_power (ds : List D) : Res D := runB 3 g_of_power ds
theorem v_of_power {a0 a1 a2 : D} : d_of_power [a0, a1, a2] = finR (g_of_power [.z a0, .z a1, .z a2]) := runB_eq rfl
def N_plus : List Str := ["one", "other", "manner", "left", "right", "power"]
def t1_plus : Rho → SR :=
  (sret (callD 3 d_of_power (acons (bop addD (var 3) (var 4)) (acons (var 5) (acons (var 2) anil)))))
def g_plus : Rho → SR :=
  sseq (sasg (callD 2 d_level (acons (var 0) (acons (var 1) anil))) (gt 3 (gsc (gn 3) (gsc (gn 4) (gsc (gn 5) gsn))))) (t1_plus)
def d_plus (ds : List D) : Res D := runB 6 g_plus ds
theorem v_plus {a0 a1 a2 : D} : d_plus [a0, a1, a2] = finR (g_plus [.z a0, .z a1, .z a2, .u, .u, .u]) := runB_eq rfl
def N_turned : List Str := ["one"]
def g_turned : Rho → SR :=
  (sret (mkT (acons (una negD (bop ixD (var 0) (con (.int 0)))) (acons (bop ixD (var 0) (con (.int 1))) anil))))
def d_turned (ds : List D) : Res D := runB 1 g_turned ds
theorem v_turned {a0 : D} : d_turned [a0] = finR (g_turned [.z a0]) := runB_eq rfl
def N_minus : List Str := ["one", "other", "manner"]
def g_minus : Rho → SR :=
  (sret (callD 3 d_plus (acons (var 0) (acons (callD 1 d_turned (acons (var 1) anil)) (acons (var 2) anil)))))
def d_minus (ds : List D) : Res D := runB 3 g_minus ds
theorem v_minus {a0 a1 a2 : D} : d_minus [a0, a1, a2] = finR (g_minus [.z a0, .z a1, .z a2]) := runB_eq rfl
def N_times : List Str := ["one", "other", "manner"]
def g_times : Rho → SR :=
  (sret (callD 3 d_of_power (acons (bop mulD (bop ixD (var 0) (con (.int 0))) (bop ixD (var 1) (con (.int 0)))) (acons (bop addD (bop ixD (var 0) (con (.int 1))) (bop ixD (var 1) (con (.int 1)))) (acons (var 2) anil)))))
def d_times (ds : List D) : Res D := runB 3 g_times ds
theorem v_times {a0 a1 a2 : D} : d_times [a0, a1, a2] = finR (g_times [.z a0, .z a1, .z a2]) := runB_eq rfl
def N_over : List Str := ["one", "other", "manner", "power"]
def t2_over : Rho → SR :=
  (sret (callD 3 d_exact (acons (bop mulD (bop ixD (var 0) (con (.int 0))) (callD 1 d_ten (acons (cal maxD (acons (var 3) (acons (con (.int 0)) anil))) anil))) (acons (bop mulD (bop ixD (var 1) (con (.int 0))) (callD 1 d_ten (acons (cal maxD (acons (una negD (var 3)) (acons (con (.int 0)) anil))) anil))) (acons (var 2) anil)))))
def t1_over : Rho → SR :=
  sseq (sasg (bop subD (bop ixD (var 0) (con (.int 1))) (bop ixD (var 1) (con (.int 1)))) (gn 3)) (t2_over)
def g_over : Rho → SR :=
  sseq (sif (tst (bop eqD (bop ixD (var 1) (con (.int 0))) (con (.int 0)))) (sraise "NoDeed") sskip) (t1_over)
def d_over (ds : List D) : Res D := runB 4 g_over ds
theorem v_over {a0 a1 a2 : D} : d_over [a0, a1, a2] = finR (g_over [.z a0, .z a1, .z a2, .u]) := runB_eq rfl
def N_less : List Str := ["one", "other", "left", "right", "power"]
def t1_less : Rho → SR :=
  (sret (bop ltD (var 2) (var 3)))
def g_less : Rho → SR :=
  sseq (sasg (callD 2 d_level (acons (var 0) (acons (var 1) anil))) (gt 3 (gsc (gn 2) (gsc (gn 3) (gsc (gn 4) gsn))))) (t1_less)
def d_less (ds : List D) : Res D := runB 5 g_less ds
theorem v_less {a0 a1 : D} : d_less [a0, a1] = finR (g_less [.z a0, .z a1, .u, .u, .u]) := runB_eq rfl
def N_whole_root : List Str := ["whole", "low", "high", "middle"]
def c1_whole_root : Rho → Res Bool :=
  (tst (bop gtD (bop subD (var 2) (var 1)) (con (.int 1))))
def b2_whole_root : Rho → SR :=
  (sseq (sasg (bop divD (bop addD (var 1) (var 2)) (con (.int 2))) (gn 3))
    (sif (tst (bop leD (bop mulD (var 3) (var 3)) (var 0))) (sasg (var 3) (gn 1)) (sasg (var 3) (gn 2))))
def t3_whole_root : Rho → SR :=
  (sret (var 1))
def t2_whole_root : Rho → SR :=
  sseq (whileD c1_whole_root b2_whole_root 100000) (t3_whole_root)
def t1_whole_root : Rho → SR :=
  sseq (sasg (callD 1 d_ten (acons (bop addD (bop divD (bop addD (callD 1 d_figures_of (acons (var 0) anil)) (con (.int 1))) (con (.int 2))) (con (.int 1))) anil)) (gn 2)) (t2_whole_root)
def g_whole_root : Rho → SR :=
  sseq (sasg (con (.int 0)) (gn 1)) (t1_whole_root)
def d_whole_root (ds : List D) : Res D := runB 4 g_whole_root ds
theorem v_whole_root {a0 : D} : d_whole_root [a0] = finR (g_whole_root [.z a0, .u, .u, .u]) := runB_eq rfl
def N_root : List Str := ["one", "manner", "digits", "power", "found", "how"]
def c1_root : Rho → Res Bool :=
  (tst (bop ltD (var 2) (callD 1 d_ten (acons (bop subD (bop mulD (con (.int 2)) (con (.int 8))) (con (.int 2))) anil))))
def b2_root : Rho → SR :=
  (sseq (sasg (bop mulD (var 2) (con (.int 100))) (gn 2))
    (sasg (bop subD (var 3) (con (.int 1))) (gn 3)))
def t10_root : Rho → SR :=
  (sret (callD 4 d_fitted (acons (var 4) (acons (var 3) (acons (con (.bl false)) (acons (var 5) anil))))))
def t9_root : Rho → SR :=
  sseq (sif (andQ (tst (bop inD (var 5) (mkT (acons (con (.str "even")) (acons (con (.str "away")) anil))))) (tst (bop ltD (bop mulD (bop addD (bop mulD (con (.int 2)) (var 4)) (con (.int 1))) (bop addD (bop mulD (con (.int 2)) (var 4)) (con (.int 1)))) (bop mulD (con (.int 4)) (var 2))))) (sasg (bop addD (var 4) (con (.int 1))) (gn 4)) sskip) (t10_root)
def t8_root : Rho → SR :=
  sseq (sif (andQ (tst (bop eqD (var 5) (con (.str "more")))) (tst (bop ltD (bop mulD (var 4) (var 4)) (var 2)))) (sasg (bop addD (var 4) (con (.int 1))) (gn 4)) sskip) (t9_root)
def t7_root : Rho → SR :=
  sseq (sasg (callD 2 d_by_size (acons (var 1) (acons (con (.bl false)) anil))) (gn 5)) (t8_root)
def t6_root : Rho → SR :=
  sseq (sasg (callD 1 d_whole_root (acons (var 2) anil)) (gn 4)) (t7_root)
def t5_root : Rho → SR :=
  sseq (whileD c1_root b2_root 100000) (t6_root)
def t4_root : Rho → SR :=
  sseq (sasg (bop divD (var 3) (con (.int 2))) (gn 3)) (t5_root)
def t3_root : Rho → SR :=
  sseq (sif (tst (bop eqD (bop modD (var 3) (con (.int 2))) (con (.int 1)))) (sseq (sasg (bop mulD (var 2) (con (.int 10))) (gn 2))
    (sasg (bop subD (var 3) (con (.int 1))) (gn 3))) sskip) (t4_root)
def t2_root : Rho → SR :=
  sseq (sif (tst (bop eqD (var 2) (con (.int 0)))) (sret (var 0)) sskip) (t3_root)
def t1_root : Rho → SR :=
  sseq (sif (tst (bop ltD (var 2) (con (.int 0)))) (sraise "NoDeed") sskip) (t2_root)
def g_root : Rho → SR :=
  sseq (sasg (var 0) (gt 2 (gsc (gn 2) (gsc (gn 3) gsn)))) (t1_root)
def d_root (ds : List D) : Res D := runB 6 g_root ds
theorem v_root {a0 a1 : D} : d_root [a0, a1] = finR (g_root [.z a0, .z a1, .u, .u, .u, .u]) := runB_eq rfl
def N_is_key : List Str := ["thing"]
def t3_is_key : Rho → SR :=
  (sret (andE (bop eqD (cal lenD (acons (var 0) anil)) (con (.int 4))) (andE (bop inD (slc (var 0) pno (psm (con (.int 3)))) (mkT (acons (con (.str "put")) (acons (con (.str "get")) anil)))) (bop inD (bop ixD (var 0) (con (.int 3))) (con (.str "0123456789"))))))
def t2_is_key : Rho → SR :=
  sseq (sif (tst (bop eqD (cal lenD (acons (var 0) anil)) (con (.int 1)))) (sret (bop inD (var 0) (con (.str "0123456789")))) sskip) (t3_is_key)
def t1_is_key : Rho → SR :=
  sseq (sif (orQ (tst (bop inD (var 0) (con (.tup [.str "sign", .str "enter", .str "root", .str "swap", .str "roll", .str "last", .str "clear"])))) (orQ (tst (inT ["plus", "minus", "times", "over"] (var 0))) (tst (bop eqD (var 0) (con (.str ".")))))) (sret (con (.bl true))) sskip) (t2_is_key)
def g_is_key : Rho → SR :=
  sseq (sif (notQ (tst (cal isiD (acons (var 0) (acons (con (.ty "str")) anil))))) (sret (con (.bl false))) sskip) (t1_is_key)
def d_is_key (ds : List D) : Res D := runB 1 g_is_key ds
def N_begin : List Str := ["manner"]
def g_begin : Rho → SR :=
  (sret (mkT (acons (var 0) (acons (bop mulD (mkT (acons (con (.tup [.int 0, .int 0])) anil)) (con (.int 4))) (acons (con (.tup [.int 0, .int 0])) (acons (bop mulD (mkT (acons (con (.tup [.int 0, .int 0])) anil)) (con (.int 10))) (acons (con .non) (acons (con (.bl false)) (acons (con .non) anil)))))))))
def d_begin (ds : List D) : Res D := runB 1 g_begin ds
def N_told_by : List Str := ["entry", "ahead", "point", "behind"]
def t1_told_by : Rho → SR :=
  (sret (callD 3 d_exact (acons (cal intD (acons (bop addD (var 1) (var 3)) anil)) (acons (callD 1 d_ten (acons (cal lenD (acons (var 3) anil)) anil)) (acons (con (.str "even")) anil)))))
def g_told_by : Rho → SR :=
  sseq (sasg (met partD (var 0) (acons (con (.str ".")) anil)) (gt 3 (gsc (gn 1) (gsc (gn 2) (gsc (gn 3) gsn))))) (t1_told_by)
def d_told_by (ds : List D) : Res D := runB 4 g_told_by ds
theorem v_told_by {a0 : D} : d_told_by [a0] = finR (g_told_by [.z a0, .u, .u, .u]) := runB_eq rfl
def N_lifted : List Str := ["pile"]
def g_lifted : Rho → SR :=
  (sret (bop addD (mkT (acons (bop ixD (var 0) (con (.int 0))) anil)) (slc (var 0) pno (psm (con (.int 3))))))
def d_lifted (ds : List D) : Res D := runB 1 g_lifted ds
def N_if_due : List Str := ["pile", "lift"]
def t1_if_due : Rho → SR :=
  (sret (var 0))
def g_if_due : Rho → SR :=
  sseq (sif (tst (var 1)) (sret (callD 1 d_lifted (acons (var 0) anil))) sskip) (t1_if_due)
def d_if_due (ds : List D) : Res D := runB 2 g_if_due ds
def N_typed : List Str := ["state", "key", "manner", "pile", "last", "boxes", "entry", "lift", "odd", "sign"]
def e1_typed : Rho → Res D :=
  (var 9)
def t2_typed : Rho → SR :=
  (sret (mkT (acons (var 2) (acons (bop addD (mkT (acons (callD 1 d_told_by (acons (var 6) anil)) anil)) (slc (var 3) (psm (con (.int 1))) pno)) (acons (var 4) (acons (var 5) (acons (var 6) (acons (var 7) (acons (var 8) anil)))))))))
def t1_typed : Rho → SR :=
  sseq (sif (tst (bop isN (var 6) (con .non))) (sseq (sasg (callD 2 d_if_due (acons (var 3) (acons (var 7) anil))) (gn 3))
    (sasg (dgetD ["."] (acons (con (.str "0.")) anil) (var 1) (var 1)) (gn 6))) (sif (tst (bop eqD (var 1) (con (.str ".")))) (sif (tst (bop niD (con (.str ".")) (var 6))) (sasg (bop addD (var 6) (var 1)) (gn 6)) sskip) (sif (tst (bop ltD (cal lenD (acons (lcD (its (var 6)) 9 (tst (bop inD (var 9) (con (.str "0123456789")))) e1_typed) anil)) (con (.int 8)))) (sasg (bop addD (var 6) (var 1)) (gn 6)) sskip))) (t2_typed)
def g_typed : Rho → SR :=
  sseq (sasg (var 0) (gt 7 (gsc (gn 2) (gsc (gn 3) (gsc (gn 4) (gsc (gn 5) (gsc (gn 6) (gsc (gn 7) (gsc (gn 8) gsn))))))))) (t1_typed)
def d_typed (ds : List D) : Res D := runB 10 g_typed ds
theorem v_typed {a0 a1 : D} : d_typed [a0, a1] = finR (g_typed [.z a0, .z a1, .u, .u, .u, .u, .u, .u, .u, .u]) := runB_eq rfl
def N_signed : List Str := ["state", "manner", "pile", "last", "boxes", "entry", "lift", "odd"]
def t3_signed : Rho → SR :=
  (sret (mkT (acons (var 1) (acons (bop addD (mkT (acons (callD 1 d_told_by (acons (var 5) anil)) anil)) (slc (var 2) (psm (con (.int 1))) pno)) (acons (var 3) (acons (var 4) (acons (var 5) (acons (var 6) (acons (var 7) anil)))))))))
def t2_signed : Rho → SR :=
  sseq (sif (tst (met startsD (var 5) (acons (con (.str "-")) anil))) (sasg (slc (var 5) (psm (con (.int 1))) pno) (gn 5)) (sasg (bop addD (con (.str "-")) (var 5)) (gn 5))) (t3_signed)
def t1_signed : Rho → SR :=
  sseq (sif (tst (bop isN (var 5) (con .non))) (sret (mkT (acons (var 1) (acons (bop addD (mkT (acons (callD 1 d_turned (acons (bop ixD (var 2) (con (.int 0))) anil)) anil)) (slc (var 2) (psm (con (.int 1))) pno)) (acons (var 3) (acons (var 4) (acons (con .non) (acons (con (.bl true)) (acons (var 7) anil))))))))) sskip) (t2_signed)
def g_signed : Rho → SR :=
  sseq (sasg (var 0) (gt 7 (gsc (gn 1) (gsc (gn 2) (gsc (gn 3) (gsc (gn 4) (gsc (gn 5) (gsc (gn 6) (gsc (gn 7) gsn))))))))) (t1_signed)
def d_signed (ds : List D) : Res D := runB 8 g_signed ds
theorem v_signed {a0 : D} : d_signed [a0] = finR (g_signed [.z a0, .u, .u, .u, .u, .u, .u, .u]) := runB_eq rfl
def N_told_of : List Str := ["key", "manner", "pile", "deed"]
def t2_told_of : Rho → SR :=
  (sret (mkT (acons (callF 3 (fun n => (if n = "plus" then some (fun ds => if ds.length = 3 then d_plus ds else .bad) else (if n = "minus" then some (fun ds => if ds.length = 3 then d_minus ds else .bad) else (if n = "times" then some (fun ds => if ds.length = 3 then d_times ds else .bad) else (if n = "over" then some (fun ds => if ds.length = 3 then d_over ds else .bad) else none))))) (acons (bop ixD (var 2) (con (.int 1))) (acons (bop ixD (var 2) (con (.int 0))) (acons (var 1) anil)))) (acons (bop ixD (var 2) (con (.int 2))) (acons (bop ixD (var 2) (con (.int 3))) (acons (bop ixD (var 2) (con (.int 3))) anil))))))
def t1_told_of : Rho → SR :=
  sseq (sasg (tabF [("plus", "plus"), ("minus", "minus"), ("times", "times"), ("over", "over")] (var 0)) (gn 3)) (t2_told_of)
def g_told_of : Rho → SR :=
  sseq (sif (tst (bop eqD (var 0) (con (.str "root")))) (sret (bop addD (mkT (acons (callD 2 d_root (acons (bop ixD (var 2) (con (.int 0))) (acons (var 1) anil))) anil)) (slc (var 2) (psm (con (.int 1))) pno))) sskip) (t1_told_of)
def d_told_of (ds : List D) : Res D := runB 4 g_told_of ds
theorem v_told_of {a0 a1 a2 : D} : d_told_of [a0, a1, a2] = finR (g_told_of [.z a0, .z a1, .z a2, .u]) := runB_eq rfl
def N_with_deed : List Str := ["state", "key", "manner", "pile", "last", "boxes", "entry", "lift", "odd", "found"]
def t2_with_deed : Rho → SR :=
  (sret (mkT (acons (var 2) (acons (var 9) (acons (bop ixD (var 3) (con (.int 0))) (acons (var 5) (acons (con .non) (acons (con (.bl true)) (acons (var 8) anil)))))))))
def t1_with_deed : Rho → SR :=
  sseq (stry2 (sasg (callD 3 d_told_of (acons (var 1) (acons (var 2) (acons (var 3) anil)))) (gn 9)) "NoDeed" (sret (mkT (acons (var 2) (acons (var 3) (acons (var 4) (acons (var 5) (acons (con .non) (acons (var 7) (acons (con (.str "deed")) anil))))))))) "TooGreat" (sret (mkT (acons (var 2) (acons (var 3) (acons (var 4) (acons (var 5) (acons (con .non) (acons (var 7) (acons (con (.str "great")) anil)))))))))) (t2_with_deed)
def g_with_deed : Rho → SR :=
  sseq (sasg (var 0) (gt 7 (gsc (gn 2) (gsc (gn 3) (gsc (gn 4) (gsc (gn 5) (gsc (gn 6) (gsc (gn 7) (gsc (gn 8) gsn))))))))) (t1_with_deed)
def d_with_deed (ds : List D) : Res D := runB 10 g_with_deed ds
theorem v_with_deed {a0 a1 : D} : d_with_deed [a0, a1] = finR (g_with_deed [.z a0, .z a1, .u, .u, .u, .u, .u, .u, .u, .u]) := runB_eq rfl
def N_with_box : List Str := ["state", "key", "manner", "pile", "last", "boxes", "entry", "lift", "odd", "at"]
def t3_with_box : Rho → SR :=
  (sret (mkT (acons (var 2) (acons (bop addD (mkT (acons (bop ixD (var 5) (var 9)) anil)) (slc (callD 2 d_if_due (acons (var 3) (acons (var 7) anil))) (psm (con (.int 1))) pno)) (acons (var 4) (acons (var 5) (acons (con .non) (acons (con (.bl true)) (acons (var 8) anil)))))))))
def t2_with_box : Rho → SR :=
  sseq (sif (tst (met startsD (var 1) (acons (con (.str "put")) anil))) (sseq (sasg (bop addD (bop addD (slc (var 5) pno (psm (var 9))) (mkT (acons (bop ixD (var 3) (con (.int 0))) anil))) (slc (var 5) (psm (bop addD (var 9) (con (.int 1)))) pno)) (gn 5))
    (sret (mkT (acons (var 2) (acons (var 3) (acons (var 4) (acons (var 5) (acons (con .non) (acons (con (.bl true)) (acons (var 8) anil)))))))))) sskip) (t3_with_box)
def t1_with_box : Rho → SR :=
  sseq (sasg (cal intD (acons (bop ixD (var 1) (con (.int 3))) anil)) (gn 9)) (t2_with_box)
def g_with_box : Rho → SR :=
  sseq (sasg (var 0) (gt 7 (gsc (gn 2) (gsc (gn 3) (gsc (gn 4) (gsc (gn 5) (gsc (gn 6) (gsc (gn 7) (gsc (gn 8) gsn))))))))) (t1_with_box)
def d_with_box (ds : List D) : Res D := runB 10 g_with_box ds
def N_moved : List Str := ["state", "key", "manner", "pile", "last", "boxes", "entry", "lift", "odd"]
def t5_moved : Rho → SR :=
  (sret (mkT (acons (var 2) (acons (bop addD (mkT (acons (con (.tup [.int 0, .int 0])) anil)) (slc (var 3) (psm (con (.int 1))) pno)) (acons (var 4) (acons (var 5) (acons (con .non) (acons (con (.bl false)) (acons (var 8) anil)))))))))
def t4_moved : Rho → SR :=
  sseq (sif (tst (bop eqD (var 1) (con (.str "last")))) (sret (mkT (acons (var 2) (acons (bop addD (mkT (acons (var 4) anil)) (slc (callD 2 d_if_due (acons (var 3) (acons (var 7) anil))) (psm (con (.int 1))) pno)) (acons (var 4) (acons (var 5) (acons (con .non) (acons (con (.bl true)) (acons (var 8) anil))))))))) sskip) (t5_moved)
def t3_moved : Rho → SR :=
  sseq (sif (tst (bop eqD (var 1) (con (.str "roll")))) (sret (mkT (acons (var 2) (acons (bop addD (slc (var 3) (psm (con (.int 1))) pno) (slc (var 3) pno (psm (con (.int 1))))) (acons (var 4) (acons (var 5) (acons (con .non) (acons (con (.bl true)) (acons (var 8) anil))))))))) sskip) (t4_moved)
def t2_moved : Rho → SR :=
  sseq (sif (tst (bop eqD (var 1) (con (.str "swap")))) (sret (mkT (acons (var 2) (acons (bop addD (mkT (acons (bop ixD (var 3) (con (.int 1))) (acons (bop ixD (var 3) (con (.int 0))) anil))) (slc (var 3) (psm (con (.int 2))) pno)) (acons (var 4) (acons (var 5) (acons (con .non) (acons (con (.bl true)) (acons (var 8) anil))))))))) sskip) (t3_moved)
def t1_moved : Rho → SR :=
  sseq (sif (tst (bop eqD (var 1) (con (.str "enter")))) (sret (mkT (acons (var 2) (acons (callD 1 d_lifted (acons (var 3) anil)) (acons (var 4) (acons (var 5) (acons (con .non) (acons (con (.bl false)) (acons (var 8) anil))))))))) sskip) (t2_moved)
def g_moved : Rho → SR :=
  sseq (sasg (var 0) (gt 7 (gsc (gn 2) (gsc (gn 3) (gsc (gn 4) (gsc (gn 5) (gsc (gn 6) (gsc (gn 7) (gsc (gn 8) gsn))))))))) (t1_moved)
def d_moved (ds : List D) : Res D := runB 9 g_moved ds
def N_pressed : List Str := ["state", "key"]
def t6_pressed : Rho → SR :=
  (sret (callD 2 d_moved (acons (var 0) (acons (var 1) anil))))
def t5_pressed : Rho → SR :=
  sseq (sif (andQ (tst (bop eqD (cal lenD (acons (var 1) anil)) (con (.int 4)))) (tst (bop inD (bop ixD (var 1) (con (.int 3))) (con (.str "0123456789"))))) (sret (callD 2 d_with_box (acons (var 0) (acons (var 1) anil)))) sskip) (t6_pressed)
def t4_pressed : Rho → SR :=
  sseq (sif (orQ (tst (inT ["plus", "minus", "times", "over"] (var 1))) (tst (bop eqD (var 1) (con (.str "root"))))) (sret (callD 2 d_with_deed (acons (var 0) (acons (var 1) anil)))) sskip) (t5_pressed)
def t3_pressed : Rho → SR :=
  sseq (sif (tst (bop eqD (var 1) (con (.str "sign")))) (sret (callD 1 d_signed (acons (var 0) anil))) sskip) (t4_pressed)
def t2_pressed : Rho → SR :=
  sseq (sif (orQ (tst (bop eqD (var 1) (con (.str ".")))) (tst (bop inD (var 1) (con (.str "0123456789"))))) (sret (callD 2 d_typed (acons (var 0) (acons (var 1) anil)))) sskip) (t3_pressed)
def t1_pressed : Rho → SR :=
  sseq (sif (tst (bop isNotN (bop ixD (var 0) (con (.int 6))) (con .non))) (sseq (sif (tst (bop neD (var 1) (con (.str "clear")))) (sret (var 0)) sskip)
    (sret (bop addD (slc (var 0) pno (psm (con (.int 4)))) (mkT (acons (con .non) (acons (con (.bl false)) (acons (con .non) anil))))))) sskip) (t2_pressed)
def g_pressed : Rho → SR :=
  sseq (sif (notQ (tst (callD 1 d_is_key (acons (var 1) anil)))) (sraise "NoKey") sskip) (t1_pressed)
def d_pressed (ds : List D) : Res D := runB 2 g_pressed ds
theorem v_pressed {a0 a1 : D} : d_pressed [a0, a1] = finR (g_pressed [.z a0, .z a1]) := runB_eq rfl
def N__law_line : List Str := ["number", "some"]
def t2__law_line : Rho → SR :=
  (sret (bop ixD (bop addD (var 1) (mkL (acons (con (.str "get0")) (acons (con (.str "sign")) (acons (con (.str "minus")) (acons (con (.str "over")) (acons (con (.str "put1")) (acons (con (.str "get1")) (acons (con (.str "clear")) anil))))))))) (bop modD (var 0) (con (.int 32)))))
def t1__law_line : Rho → SR :=
  sseq (sasg (bop addD (var 1) (mkL (acons (con (.str "nought")) (acons (con (.str "nought")) (acons (con (.str "less")) (acons (con (.str "1")) (acons (con (.str "2")) (acons (con (.str "enter")) (acons (con (.str "plus")) (acons (con (.str "minus")) (acons (con (.str "times")) (acons (con (.str "swap")) (acons (con (.str "roll")) (acons (con (.str "put0")) anil)))))))))))))) (gn 1)) (t2__law_line)
def g__law_line : Rho → SR :=
  sseq (sasg (mkL (acons (con (.str "mark1")) (acons (con (.str "mark2")) (acons (con (.str "mark3")) (acons (con (.str "go1")) (acons (con (.str "go2")) (acons (con (.str "go3")) (acons (con (.str "call1")) (acons (con (.str "call2")) (acons (con (.str "call3")) (acons (con (.str "back")) (acons (con (.str "stop")) (acons (con (.str "less")) (acons (con (.str "same")) anil)))))))))))))) (gn 1)) (t1__law_line)
def d__law_line (ds : List D) : Res D := runB 2 g__law_line ds
theorem v__law_line {a0 : D} : d__law_line [a0] = finR (g__law_line [.z a0, .u]) := runB_eq rfl
def N_behind_mark : List Str := ["program", "figure"]
def t1_behind_mark : Rho → SR :=
  (sret (bop addD (metP (var 0) (acons (bop addD (con (.str "mark")) (var 1)) anil)) (con (.int 1))))
def g_behind_mark : Rho → SR :=
  sseq (sif (tst (bop niP (bop addD (con (.str "mark")) (var 1)) (var 0))) (sret (con .non)) sskip) (t1_behind_mark)
def d_behind_mark (ds : List D) : Res D := runB 2 g_behind_mark ds
theorem v_behind_mark {a0 a1 : D} : d_behind_mark [a0, a1] = finR (g_behind_mark [.z a0, .z a1]) := runB_eq rfl
def N_is_so : List Str := ["word", "pile"]
def t2_is_so : Rho → SR :=
  (sret (bop eqD (bop ixD (var 1) (con (.int 0))) (con (.tup [.int 0, .int 0]))))
def t1_is_so : Rho → SR :=
  sseq (sif (tst (bop eqD (var 0) (con (.str "same")))) (sret (bop eqD (bop ixD (var 1) (con (.int 0))) (bop ixD (var 1) (con (.int 1))))) sskip) (t2_is_so)
def g_is_so : Rho → SR :=
  sseq (sif (tst (bop eqD (var 0) (con (.str "less")))) (sret (callD 2 d_less (acons (bop ixD (var 1) (con (.int 0))) (acons (bop ixD (var 1) (con (.int 1))) anil)))) sskip) (t1_is_so)
def d_is_so (ds : List D) : Res D := runB 2 g_is_so ds
theorem v_is_so {a0 a1 : D} : d_is_so [a0, a1] = finR (g_is_so [.z a0, .z a1]) := runB_eq rfl
def N_led : List Str := ["program", "state", "place", "line", "calls", "word", "goal"]
def t7_led : Rho → SR :=
  (sret (mkT (acons (var 6) (acons (bop addD (var 4) (mkT (acons (bop addD (var 3) (con (.int 1))) anil))) anil))))
def t6_led : Rho → SR :=
  sseq (sif (tst (bop eqD (cal lenD (acons (var 4) anil)) (con (.int 4)))) (sret (con .non)) sskip) (t7_led)
def t5_led : Rho → SR :=
  sseq (sif (tst (met startsD (var 5) (acons (con (.str "go")) anil))) (sret (mkT (acons (var 6) (acons (var 4) anil)))) sskip) (t6_led)
def t4_led : Rho → SR :=
  sseq (sif (tst (bop isN (var 6) (con .non))) (sret (con .non)) sskip) (t5_led)
def t3_led : Rho → SR :=
  sseq (sasg (callD 2 d_behind_mark (acons (var 0) (acons (bop ixD (var 5) (una negD (con (.int 1)))) anil))) (gn 6)) (t4_led)
def t2_led : Rho → SR :=
  sseq (sif (tst (bop eqD (var 5) (con (.str "back")))) (sseq (sif (tst (bop eqD (cal lenD (acons (var 4) anil)) (con (.int 0)))) (sret (con .non)) sskip)
    (sret (mkT (acons (bop ixD (var 4) (una negD (con (.int 1)))) (acons (slc (var 4) pno (psm (una negD (con (.int 1))))) anil))))) sskip) (t3_led)
def t1_led : Rho → SR :=
  sseq (sasg (bop ixP (var 0) (var 3)) (gn 5)) (t2_led)
def g_led : Rho → SR :=
  sseq (sasg (var 2) (gt 2 (gsc (gn 3) (gsc (gn 4) gsn)))) (t1_led)
def d_led (ds : List D) : Res D := runB 7 g_led ds
theorem v_led {a0 a1 a2 : D} : d_led [a0, a1, a2] = finR (g_led [.z a0, .z a1, .z a2, .u, .u, .u, .u]) := runB_eq rfl
def N_step : List Str := ["program", "state", "place", "line", "calls", "word", "new", "goal"]
def t8_step : Rho → SR :=
  (sret (mkT (acons (var 1) (acons (var 7) (acons (con (.str "on")) anil)))))
def t7_step : Rho → SR :=
  sseq (sif (tst (bop isN (var 7) (con .non))) (sret (mkT (acons (var 1) (acons (var 2) (acons (con (.str "lost")) anil))))) sskip) (t8_step)
def t6_step : Rho → SR :=
  sseq (sasg (callD 3 d_led (acons (var 0) (acons (var 1) (acons (var 2) anil)))) (gn 7)) (t7_step)
def t5_step : Rho → SR :=
  sseq (sif (tst (met startsD (var 5) (acons (con (.str "mark")) anil))) (sret (mkT (acons (var 1) (acons (mkT (acons (bop addD (var 3) (con (.int 1))) (acons (var 4) anil))) (acons (con (.str "on")) anil))))) sskip) (t6_step)
def t4_step : Rho → SR :=
  sseq (sif (tst (bop inD (var 5) (mkT (acons (con (.str "less")) (acons (con (.str "same")) (acons (con (.str "nought")) anil)))))) (sseq (sasg (bop addD (bop addD (slc (var 1) pno (psm (con (.int 4)))) (mkT (acons (con .non) (acons (con (.bl true)) anil)))) (slc (var 1) (psm (con (.int 6))) pno)) (gn 6))
    (sret (mkT (acons (var 6) (acons (mkT (acons (bop subD (bop addD (var 3) (con (.int 2))) (cal intD (acons (callD 2 d_is_so (acons (var 5) (acons (bop ixD (var 1) (con (.int 1))) anil))) anil))) (acons (var 4) anil))) (acons (con (.str "on")) anil)))))) sskip) (t5_step)
def t3_step : Rho → SR :=
  sseq (sif (tst (callD 1 d_is_key (acons (var 5) anil))) (sseq (sasg (callD 2 d_pressed (acons (var 1) (acons (var 5) anil))) (gn 6))
    (sseq (sif (tst (bop isNotN (bop ixD (var 6) (con (.int 6))) (con .non))) (sret (mkT (acons (var 6) (acons (var 2) (acons (con (.str "odd")) anil))))) sskip)
    (sret (mkT (acons (var 6) (acons (mkT (acons (bop addD (var 3) (con (.int 1))) (acons (var 4) anil))) (acons (con (.str "on")) anil))))))) sskip) (t4_step)
def t2_step : Rho → SR :=
  sseq (sasg (bop ixP (var 0) (var 3)) (gn 5)) (t3_step)
def t1_step : Rho → SR :=
  sseq (sif (orQ (notQ (tst (chn leD ltD (con (.int 0)) (var 3) (cal lenP (acons (var 0) anil))))) (tst (bop eqD (bop ixP (var 0) (var 3)) (con (.str "stop"))))) (sret (mkT (acons (var 1) (acons (var 2) (acons (con (.str "ended")) anil))))) sskip) (t2_step)
def g_step : Rho → SR :=
  sseq (sasg (var 2) (gt 2 (gsc (gn 3) (gsc (gn 4) gsn)))) (t1_step)
def d_step (ds : List D) : Res D := runB 8 g_step ds
theorem v_step {a0 a1 a2 : D} : d_step [a0, a1, a2] = finR (g_step [.z a0, .z a1, .z a2, .u, .u, .u, .u, .u]) := runB_eq rfl
def N__law_program_v2 : List Str := ["number", "most", "k"]
def e1__law_program_v2 : Rho → Res D :=
  (callD 1 d__law_line (acons (bop divD (callD 2 d__law_drawn (acons (var 0) (acons (var 2) anil))) (con (.int 4))) anil))
def g__law_program_v2 : Rho → SR :=
  (sret (cal tupP (acons (lcD (rng1 (acons (bop modD (var 0) (bop addD (var 1) (con (.int 1)))) anil)) 2 yes e1__law_program_v2) anil)))
def d__law_program_v2 (ds : List D) : Res D := runB 3 g__law_program_v2 ds
theorem v__law_program_v2 {a0 a1 : D} : d__law_program_v2 [a0, a1] = finR (g__law_program_v2 [.z a0, .z a1, .u]) := runB_eq rfl
def N_ring : List Str := ["program", "state", "most", "place", "seen", "count", "how"]
noncomputable def b1_ring (P : Program) (w : World) : Rho → SR :=
  (sseq (sasg (callD 3 d_step (acons (var 0) (acons (var 1) (acons (var 3) anil)))) (gt 3 (gsc (gn 1) (gsc (gn 3) (gsc (gn 6) gsn)))))
    (sseq (sif (tst (bop neD (var 6) (con (.str "on")))) (sret (con .non)) sskip)
    (sseq (sif (inN P w 4 (mkT (acons (var 1) (acons (var 3) anil)))) (sret (mkT (acons (ixNd P w 4 (mkT (acons (var 1) (acons (var 3) anil)))) (acons (bop subD (var 5) (ixNd P w 4 (mkT (acons (var 1) (acons (var 3) anil))))) anil)))) sskip)
    (sputN P w 4 (mkT (acons (var 1) (acons (var 3) anil))) (var 5)))))
noncomputable def t3_ring (P : Program) (w : World) : Rho → SR :=
  (sret (con .non))
noncomputable def t2_ring (P : Program) (w : World) : Rho → SR :=
  sseq (sfor (rng2 (acons (con (.int 1)) (acons (bop addD (var 2) (con (.int 1))) anil))) (gn 5) (b1_ring P w)) (t3_ring P w)
noncomputable def t1_ring (P : Program) (w : World) : Rho → SR :=
  sseq (sownN P w (mkT (acons (var 1) (acons (var 3) anil))) (con (.int 0)) 4) (t2_ring P w)
noncomputable def g_ring (P : Program) (w : World) : Rho → SR :=
  sseq (sasg (mkT (acons (con (.int 0)) (acons (mkT anil) anil))) (gn 3)) (t1_ring P w)
noncomputable def d_ring (P : Program) (w : World) (ds : List D) : Res D := runB 7 (g_ring P w) ds
theorem v_ring {a0 a1 a2 : D} {P : Program} {w : World} : d_ring P w [a0, a1, a2] = finR (g_ring P w [.z a0, .z a1, .z a2, .u, .u, .u, .u]) := runB_eq rfl
def topS (i : Nat) : Stmt := PySem.Challenge.pw_pocketpile_k34_whole_rings.main.body.getD i (.Pass ⟨0, 0, 0, 0⟩)
abbrev s_ten : Stmt := topS 8
abbrev s_figures_of : Stmt := topS 9
abbrev s_height : Stmt := topS 10
abbrev s_taken : Stmt := topS 11
abbrev s_by_size : Stmt := topS 12
abbrev s_fitted : Stmt := topS 13
abbrev s_power_for : Stmt := topS 14
abbrev s_exact : Stmt := topS 15
abbrev s_level : Stmt := topS 17
abbrev s_of_power : Stmt := topS 18
abbrev s_plus : Stmt := topS 19
abbrev s_turned : Stmt := topS 20
abbrev s_minus : Stmt := topS 21
abbrev s_times : Stmt := topS 22
abbrev s_over : Stmt := topS 23
abbrev s_less : Stmt := topS 24
abbrev s_whole_root : Stmt := topS 25
abbrev s_root : Stmt := topS 26
abbrev s_is_key : Stmt := topS 33
abbrev s_begin : Stmt := topS 34
abbrev s_told_by : Stmt := topS 35
abbrev s_lifted : Stmt := topS 36
abbrev s_if_due : Stmt := topS 37
abbrev s_typed : Stmt := topS 38
abbrev s_signed : Stmt := topS 39
abbrev s_told_of : Stmt := topS 40
abbrev s_with_deed : Stmt := topS 41
abbrev s_with_box : Stmt := topS 42
abbrev s_moved : Stmt := topS 43
abbrev s_pressed : Stmt := topS 44
abbrev s_behind_mark : Stmt := topS 47
abbrev s_is_so : Stmt := topS 48
abbrev s_led : Stmt := topS 49
abbrev s_step : Stmt := topS 50
abbrev s_ring : Stmt := topS 51
abbrev s__law_cell_at : Stmt := topS 53
abbrev s__law_mixed : Stmt := topS 54
abbrev s__law_drawn : Stmt := topS 55
abbrev s__law_manner : Stmt := topS 56
abbrev s__law_line : Stmt := topS 57
abbrev s__law_program : Stmt := topS 58
abbrev s_law : Stmt := topS 59
def k_PLAIN_KEYS : List Str := ["sign", "enter", "root", "swap", "roll", "last", "clear"]
structure Top (w : World) (K : PySem.W.Frag) (mg : Str → Option Value) : Prop where
  f_ten : ∃ fd, FunD K "ten" "ten" (defArgs s_ten) (defBody s_ten) (defScope s_ten) [] [] (He.ga K "ten") fd
  m_ten : mg "ten" = some (.ref (He.ga K "ten"))
  f_figures_of : ∃ fd, FunD K "figures_of" "figures_of" (defArgs s_figures_of) (defBody s_figures_of) (defScope s_figures_of) [] [] (He.ga K "figures_of") fd
  m_figures_of : mg "figures_of" = some (.ref (He.ga K "figures_of"))
  f_height : ∃ fd, FunD K "height" "height" (defArgs s_height) (defBody s_height) (defScope s_height) [] [] (He.ga K "height") fd
  m_height : mg "height" = some (.ref (He.ga K "height"))
  f_taken : ∃ fd, FunD K "taken" "taken" (defArgs s_taken) (defBody s_taken) (defScope s_taken) [] [] (He.ga K "taken") fd
  m_taken : mg "taken" = some (.ref (He.ga K "taken"))
  f_by_size : ∃ fd, FunD K "by_size" "by_size" (defArgs s_by_size) (defBody s_by_size) (defScope s_by_size) [] [] (He.ga K "by_size") fd
  m_by_size : mg "by_size" = some (.ref (He.ga K "by_size"))
  f_fitted : ∃ fd, FunD K "fitted" "fitted" (defArgs s_fitted) (defBody s_fitted) (defScope s_fitted) [] [] (He.ga K "fitted") fd
  m_fitted : mg "fitted" = some (.ref (He.ga K "fitted"))
  f_power_for : ∃ fd, FunD K "power_for" "power_for" (defArgs s_power_for) (defBody s_power_for) (defScope s_power_for) [] [] (He.ga K "power_for") fd
  m_power_for : mg "power_for" = some (.ref (He.ga K "power_for"))
  f_exact : ∃ fd, FunD K "exact" "exact" (defArgs s_exact) (defBody s_exact) (defScope s_exact) [] [] (He.ga K "exact") fd
  m_exact : mg "exact" = some (.ref (He.ga K "exact"))
  f_level : ∃ fd, FunD K "level" "level" (defArgs s_level) (defBody s_level) (defScope s_level) [] [] (He.ga K "level") fd
  m_level : mg "level" = some (.ref (He.ga K "level"))
  f_of_power : ∃ fd, FunD K "of_power" "of_power" (defArgs s_of_power) (defBody s_of_power) (defScope s_of_power) [] [] (He.ga K "of_power") fd
  m_of_power : mg "of_power" = some (.ref (He.ga K "of_power"))
  f_plus : ∃ fd, FunD K "plus" "plus" (defArgs s_plus) (defBody s_plus) (defScope s_plus) [] [] (He.ga K "plus") fd
  m_plus : mg "plus" = some (.ref (He.ga K "plus"))
  f_turned : ∃ fd, FunD K "turned" "turned" (defArgs s_turned) (defBody s_turned) (defScope s_turned) [] [] (He.ga K "turned") fd
  m_turned : mg "turned" = some (.ref (He.ga K "turned"))
  f_minus : ∃ fd, FunD K "minus" "minus" (defArgs s_minus) (defBody s_minus) (defScope s_minus) [] [] (He.ga K "minus") fd
  m_minus : mg "minus" = some (.ref (He.ga K "minus"))
  f_times : ∃ fd, FunD K "times" "times" (defArgs s_times) (defBody s_times) (defScope s_times) [] [] (He.ga K "times") fd
  m_times : mg "times" = some (.ref (He.ga K "times"))
  f_over : ∃ fd, FunD K "over" "over" (defArgs s_over) (defBody s_over) (defScope s_over) [] [] (He.ga K "over") fd
  m_over : mg "over" = some (.ref (He.ga K "over"))
  f_less : ∃ fd, FunD K "less" "less" (defArgs s_less) (defBody s_less) (defScope s_less) [] [] (He.ga K "less") fd
  m_less : mg "less" = some (.ref (He.ga K "less"))
  f_whole_root : ∃ fd, FunD K "whole_root" "whole_root" (defArgs s_whole_root) (defBody s_whole_root) (defScope s_whole_root) [] [] (He.ga K "whole_root") fd
  m_whole_root : mg "whole_root" = some (.ref (He.ga K "whole_root"))
  f_root : ∃ fd, FunD K "root" "root" (defArgs s_root) (defBody s_root) (defScope s_root) [] [] (He.ga K "root") fd
  m_root : mg "root" = some (.ref (He.ga K "root"))
  f_is_key : ∃ fd, FunD K "is_key" "is_key" (defArgs s_is_key) (defBody s_is_key) (defScope s_is_key) [] [] (He.ga K "is_key") fd
  m_is_key : mg "is_key" = some (.ref (He.ga K "is_key"))
  f_begin : ∃ fd, FunD K "begin" "begin" (defArgs s_begin) (defBody s_begin) (defScope s_begin) [] [] (He.ga K "begin") fd
  m_begin : mg "begin" = some (.ref (He.ga K "begin"))
  f_told_by : ∃ fd, FunD K "told_by" "told_by" (defArgs s_told_by) (defBody s_told_by) (defScope s_told_by) [] [] (He.ga K "told_by") fd
  m_told_by : mg "told_by" = some (.ref (He.ga K "told_by"))
  f_lifted : ∃ fd, FunD K "lifted" "lifted" (defArgs s_lifted) (defBody s_lifted) (defScope s_lifted) [] [] (He.ga K "lifted") fd
  m_lifted : mg "lifted" = some (.ref (He.ga K "lifted"))
  f_if_due : ∃ fd, FunD K "if_due" "if_due" (defArgs s_if_due) (defBody s_if_due) (defScope s_if_due) [] [] (He.ga K "if_due") fd
  m_if_due : mg "if_due" = some (.ref (He.ga K "if_due"))
  f_typed : ∃ fd, FunD K "typed" "typed" (defArgs s_typed) (defBody s_typed) (defScope s_typed) [] [] (He.ga K "typed") fd
  m_typed : mg "typed" = some (.ref (He.ga K "typed"))
  f_signed : ∃ fd, FunD K "signed" "signed" (defArgs s_signed) (defBody s_signed) (defScope s_signed) [] [] (He.ga K "signed") fd
  m_signed : mg "signed" = some (.ref (He.ga K "signed"))
  f_told_of : ∃ fd, FunD K "told_of" "told_of" (defArgs s_told_of) (defBody s_told_of) (defScope s_told_of) [] [] (He.ga K "told_of") fd
  m_told_of : mg "told_of" = some (.ref (He.ga K "told_of"))
  f_with_deed : ∃ fd, FunD K "with_deed" "with_deed" (defArgs s_with_deed) (defBody s_with_deed) (defScope s_with_deed) [] [] (He.ga K "with_deed") fd
  m_with_deed : mg "with_deed" = some (.ref (He.ga K "with_deed"))
  f_with_box : ∃ fd, FunD K "with_box" "with_box" (defArgs s_with_box) (defBody s_with_box) (defScope s_with_box) [] [] (He.ga K "with_box") fd
  m_with_box : mg "with_box" = some (.ref (He.ga K "with_box"))
  f_moved : ∃ fd, FunD K "moved" "moved" (defArgs s_moved) (defBody s_moved) (defScope s_moved) [] [] (He.ga K "moved") fd
  m_moved : mg "moved" = some (.ref (He.ga K "moved"))
  f_pressed : ∃ fd, FunD K "pressed" "pressed" (defArgs s_pressed) (defBody s_pressed) (defScope s_pressed) [] [] (He.ga K "pressed") fd
  m_pressed : mg "pressed" = some (.ref (He.ga K "pressed"))
  f_behind_mark : ∃ fd, FunD K "behind_mark" "behind_mark" (defArgs s_behind_mark) (defBody s_behind_mark) (defScope s_behind_mark) [] [] (He.ga K "behind_mark") fd
  m_behind_mark : mg "behind_mark" = some (.ref (He.ga K "behind_mark"))
  f_is_so : ∃ fd, FunD K "is_so" "is_so" (defArgs s_is_so) (defBody s_is_so) (defScope s_is_so) [] [] (He.ga K "is_so") fd
  m_is_so : mg "is_so" = some (.ref (He.ga K "is_so"))
  f_led : ∃ fd, FunD K "led" "led" (defArgs s_led) (defBody s_led) (defScope s_led) [] [] (He.ga K "led") fd
  m_led : mg "led" = some (.ref (He.ga K "led"))
  f_step : ∃ fd, FunD K "step" "step" (defArgs s_step) (defBody s_step) (defScope s_step) [] [] (He.ga K "step") fd
  m_step : mg "step" = some (.ref (He.ga K "step"))
  f_ring : ∃ fd, FunD K "ring" "ring" (defArgs s_ring) (defBody s_ring) (defScope s_ring) [] [] (He.ga K "ring") fd
  m_ring : mg "ring" = some (.ref (He.ga K "ring"))
  f__law_cell_at : ∃ fd, FunD K "_law_cell_at" "_law_cell_at" (defArgs s__law_cell_at) (defBody s__law_cell_at) (defScope s__law_cell_at) [] [] (He.ga K "_law_cell_at") fd
  m__law_cell_at : mg "_law_cell_at" = some (.ref (He.ga K "_law_cell_at"))
  f__law_mixed : ∃ fd, FunD K "_law_mixed" "_law_mixed" (defArgs s__law_mixed) (defBody s__law_mixed) (defScope s__law_mixed) [] [] (He.ga K "_law_mixed") fd
  m__law_mixed : mg "_law_mixed" = some (.ref (He.ga K "_law_mixed"))
  f__law_drawn : ∃ fd, FunD K "_law_drawn" "_law_drawn" (defArgs s__law_drawn) (defBody s__law_drawn) (defScope s__law_drawn) [] [] (He.ga K "_law_drawn") fd
  m__law_drawn : mg "_law_drawn" = some (.ref (He.ga K "_law_drawn"))
  f__law_manner : ∃ fd, FunD K "_law_manner" "_law_manner" (defArgs s__law_manner) (defBody s__law_manner) (defScope s__law_manner) [] [] (He.ga K "_law_manner") fd
  m__law_manner : mg "_law_manner" = some (.ref (He.ga K "_law_manner"))
  f__law_line : ∃ fd, FunD K "_law_line" "_law_line" (defArgs s__law_line) (defBody s__law_line) (defScope s__law_line) [] [] (He.ga K "_law_line") fd
  m__law_line : mg "_law_line" = some (.ref (He.ga K "_law_line"))
  f__law_program : ∃ fd, FunD K "_law_program" "_law_program" (defArgs s__law_program) (defBody s__law_program) (defScope s__law_program) [] [] (He.ga K "_law_program") fd
  m__law_program : mg "_law_program" = some (.ref (He.ga K "_law_program"))
  f_law : ∃ fd, FunD K "law" "law" (defArgs s_law) (defBody s_law) (defScope s_law) [] [] (He.ga K "law") fd
  m_law : mg "law" = some (.ref (He.ga K "law"))
  b_int : mg "int" = none
  b_abs : mg "abs" = none
  b_str : mg "str" = none
  b_len : mg "len" = none
  b_max : mg "max" = none
  b_min : mg "min" = none
  b_isinstance : mg "isinstance" = none
  b_range : mg "range" = none
  b_tuple : mg "tuple" = none
  c_HIGHEST : ∃ t, mg "HIGHEST" = some (.int (40) t)
  c_MOST : ∃ t, mg "MOST" = some (.int (8) t)
  c_BOXES : ∃ t, mg "BOXES" = some (.int (10) t)
  c_MOST_CALLS : ∃ t, mg "MOST_CALLS" = some (.int (4) t)
  c_FIGURES : ∃ t, mg "FIGURES" = some (.str "0123456789" t)
  m_PLAIN_KEYS : mg "PLAIN_KEYS" = some (.ref (He.ga K "PLAIN_KEYS"))
  c_PLAIN_KEYS : ∀ H, SqT K H (He.ga K "PLAIN_KEYS") (k_PLAIN_KEYS.map V.str)
  m_ZERO : mg "ZERO" = some (.ref (He.ga K "ZERO"))
  c_ZERO : ∀ H, SqT K H (He.ga K "ZERO") (([0, 0] : List Int).map V.int)
  d_DEEDS : DicF w K mg "DEEDS" [("plus", "plus"), ("minus", "minus"), ("times", "times"), ("over", "over")]
  x_NoDeed_TooGreat : mg "NoDeed" = some (.ref (He.ga K "NoDeed")) ∧ mg "TooGreat" = some (.ref (He.ga K "TooGreat")) ∧ PySem.W.exmOne K (.ref (He.ga K "NoDeed")) (.ref (He.ga K "NoDeed")) = some true ∧ PySem.W.exmOne K (.ref (He.ga K "TooGreat")) (.ref (He.ga K "NoDeed")) = some (decide (("TooGreat" : Str) = "NoDeed")) ∧ PySem.W.exmOne K (.ref (He.ga K "TooGreat")) (.ref (He.ga K "TooGreat")) = some true
  e_TooGreat : ExcN K mg "TooGreat"
  e_NoDeed : ExcN K mg "NoDeed"
  e_NoKey : ExcN K mg "NoKey"
section
variable {P : Program} {w : World} {K : PySem.W.Frag} {mg : Str → Option Value} {base : Heap} {T : List (Addr × Str)}
theorem sc_ten : FnScope N_ten ["power"] (defScope s_ten) := ⟨rfl, rfl, rfl, by decide +kernel, rfl, by decide +kernel, by decide +kernel⟩
theorem ok_ten (Z : Top w K mg) : OkD P w K mg base T 1 "ten" 1 d_ten := by
  obtain ⟨fd, Fd⟩ := Z.f_ten
  refine ⟨⟨fd, ["power"], fn_ok Fd sc_ten rfl fun cdv A outer s0 H0 E F0 hr => ?_, Fd.bindsN (ps := ["power"]) (fun _ _ _ _ _ _ us hl => match us, hl with | [_], _ => rfl)⟩, Fd.kp, Z.m_ten⟩
  have tk : Takes (cxOf (L2.CX P w) P w K mg base N_ten "ten" (defScope s_ten) (He.ga K "ten") cdv A outer s0 H0 E) (WofE E) := takes_of rfl rfl rfl rfl
  have po : PassesOwn (model P w) (cxOf (L2.CX P w) P w K mg base N_ten "ten" (defScope s_ten) (He.ga K "ten") cdv A outer s0 H0 E).A (cxOf (L2.CX P w) P w K mg base N_ten "ten" (defScope s_ten) (He.ga K "ten") cdv A outer s0 H0 E).env (cxOf (L2.CX P w) P w K mg base N_ten "ten" (defScope s_ten) (He.ga K "ten") cdv A outer s0 H0 E).xe := passes_of (X := (cxOf (L2.CX P w) P w K mg base N_ten "ten" (defScope s_ten) (He.ga K "ten") cdv A outer s0 H0 E)) rfl
  have hu := hr.units
  exact (s_one (s_ret (e_callTy c_int rfl Z.b_int bt_int (a_cons (e_bin o_add e_str (e_bin o_mul e_str (e_var (pv 0)))) a_nil))))
theorem sc_figures_of : FnScope N_figures_of ["whole"] (defScope s_figures_of) := ⟨rfl, rfl, rfl, by decide +kernel, rfl, by decide +kernel, by decide +kernel⟩
theorem ok_figures_of (Z : Top w K mg) : OkD P w K mg base T 1 "figures_of" 1 d_figures_of := by
  obtain ⟨fd, Fd⟩ := Z.f_figures_of
  refine ⟨⟨fd, ["whole"], fn_ok Fd sc_figures_of rfl fun cdv A outer s0 H0 E F0 hr => ?_, Fd.bindsN (ps := ["whole"]) (fun _ _ _ _ _ _ us hl => match us, hl with | [_], _ => rfl)⟩, Fd.kp, Z.m_figures_of⟩
  have tk : Takes (cxOf (L2.CX P w) P w K mg base N_figures_of "figures_of" (defScope s_figures_of) (He.ga K "figures_of") cdv A outer s0 H0 E) (WofE E) := takes_of rfl rfl rfl rfl
  have po : PassesOwn (model P w) (cxOf (L2.CX P w) P w K mg base N_figures_of "figures_of" (defScope s_figures_of) (He.ga K "figures_of") cdv A outer s0 H0 E).A (cxOf (L2.CX P w) P w K mg base N_figures_of "figures_of" (defScope s_figures_of) (He.ga K "figures_of") cdv A outer s0 H0 E).env (cxOf (L2.CX P w) P w K mg base N_figures_of "figures_of" (defScope s_figures_of) (He.ga K "figures_of") cdv A outer s0 H0 E).xe := passes_of (X := (cxOf (L2.CX P w) P w K mg base N_figures_of "figures_of" (defScope s_figures_of) (He.ga K "figures_of") cdv A outer s0 H0 E)) rfl
  have hu := hr.units
  exact (s_one (s_ret (e_callB c_len rfl Z.b_len bt_len (a_cons (e_callTy c_str rfl Z.b_str bt_str (a_cons (e_callB c_abs rfl Z.b_abs bt_abs (a_cons (e_var (pv 0)) a_nil)) a_nil)) a_nil))))
theorem sc_height : FnScope N_height ["number"] (defScope s_height) := ⟨rfl, rfl, rfl, by decide +kernel, rfl, by decide +kernel, by decide +kernel⟩
theorem ok_height (Z : Top w K mg) : OkD P w K mg base T 2 "height" 1 d_height := by
  obtain ⟨fd, Fd⟩ := Z.f_height
  refine ⟨⟨fd, ["number"], fn_ok Fd sc_height rfl fun cdv A outer s0 H0 E F0 hr => ?_, Fd.bindsN (ps := ["number"]) (fun _ _ _ _ _ _ us hl => match us, hl with | [_], _ => rfl)⟩, Fd.kp, Z.m_height⟩
  have tk : Takes (cxOf (L2.CX P w) P w K mg base N_height "height" (defScope s_height) (He.ga K "height") cdv A outer s0 H0 E) (WofE E) := takes_of rfl rfl rfl rfl
  have po : PassesOwn (model P w) (cxOf (L2.CX P w) P w K mg base N_height "height" (defScope s_height) (He.ga K "height") cdv A outer s0 H0 E).A (cxOf (L2.CX P w) P w K mg base N_height "height" (defScope s_height) (He.ga K "height") cdv A outer s0 H0 E).env (cxOf (L2.CX P w) P w K mg base N_height "height" (defScope s_height) (He.ga K "height") cdv A outer s0 H0 E).xe := passes_of (X := (cxOf (L2.CX P w) P w K mg base N_height "height" (defScope s_height) (He.ga K "height") cdv A outer s0 H0 E)) rfl
  have hu := hr.units
  exact (s_one (s_ret (e_bin o_sub (e_bin o_add (e_ix (e_var (pv 0)) e_int) (e_call (ok_figures_of Z) hr tk rfl (a_cons (e_ix (e_var (pv 0)) e_int) a_nil))) e_int)))
theorem sc_taken : FnScope N_taken ["whole", "rest", "lower", "manner"] (defScope s_taken) := ⟨rfl, rfl, rfl, by decide +kernel, rfl, by decide +kernel, by decide +kernel⟩
theorem ok_taken (Z : Top w K mg) : OkD P w K mg base T 1 "taken" 4 d_taken := by
  obtain ⟨fd, Fd⟩ := Z.f_taken
  refine ⟨⟨fd, ["whole", "rest", "lower", "manner"], fn_ok Fd sc_taken rfl fun cdv A outer s0 H0 E F0 hr => ?_, Fd.bindsN (ps := ["whole", "rest", "lower", "manner"]) (fun _ _ _ _ _ _ us hl => match us, hl with | [_, _, _, _], _ => rfl)⟩, Fd.kp, Z.m_taken⟩
  have tk : Takes (cxOf (L2.CX P w) P w K mg base N_taken "taken" (defScope s_taken) (He.ga K "taken") cdv A outer s0 H0 E) (WofE E) := takes_of rfl rfl rfl rfl
  have po : PassesOwn (model P w) (cxOf (L2.CX P w) P w K mg base N_taken "taken" (defScope s_taken) (He.ga K "taken") cdv A outer s0 H0 E).A (cxOf (L2.CX P w) P w K mg base N_taken "taken" (defScope s_taken) (He.ga K "taken") cdv A outer s0 H0 E).env (cxOf (L2.CX P w) P w K mg base N_taken "taken" (defScope s_taken) (He.ga K "taken") cdv A outer s0 H0 E).xe := passes_of (X := (cxOf (L2.CX P w) P w K mg base N_taken "taken" (defScope s_taken) (He.ga K "taken") cdv A outer s0 H0 E)) rfl
  have hu := hr.units
  exact (s_cons (s_if (q_w (w_or (q_cmp (o_eq hu) (e_var (pv 1)) e_int (nomark _)) (w_or1 (q_cmp (o_eq hu) (e_var (pv 3)) e_str (nomark _))))) (s_one (s_ret (e_var (pv 0)))) s_nil)
    (s_cons (s_if (q_cmp (o_eq hu) (e_var (pv 3)) e_str (nomark _)) (s_one (s_ret (e_bin o_add (e_var (pv 0)) e_int))) s_nil)
    (s_cons (s_if (q_cmp (o_eq hu) (e_bin o_mul e_int (e_var (pv 1))) (e_var (pv 2)) (nomark _)) (s_one (s_ret (e_bin o_add (e_var (pv 0)) (e_callTy c_int rfl Z.b_int bt_int (a_cons (e_or (e_cmp (o_eq hu) (e_var (pv 3)) e_str (nomark _)) (e_one (e_cmp (o_eq hu) (e_bin o_mod (e_var (pv 0)) e_int) e_int (nomark _)))) a_nil))))) s_nil)
    (s_one (s_ret (e_bin o_add (e_var (pv 0)) (e_callTy c_int rfl Z.b_int bt_int (a_cons (e_cmp o_gt (e_bin o_mul e_int (e_var (pv 1))) (e_var (pv 2)) (nomark _)) a_nil))))))))
theorem sc_by_size : FnScope N_by_size ["manner", "below"] (defScope s_by_size) := ⟨rfl, rfl, rfl, by decide +kernel, rfl, by decide +kernel, by decide +kernel⟩
theorem ok_by_size (Z : Top w K mg) : OkD P w K mg base T 1 "by_size" 2 d_by_size := by
  obtain ⟨fd, Fd⟩ := Z.f_by_size
  refine ⟨⟨fd, ["manner", "below"], fn_ok Fd sc_by_size rfl fun cdv A outer s0 H0 E F0 hr => ?_, Fd.bindsN (ps := ["manner", "below"]) (fun _ _ _ _ _ _ us hl => match us, hl with | [_, _], _ => rfl)⟩, Fd.kp, Z.m_by_size⟩
  have tk : Takes (cxOf (L2.CX P w) P w K mg base N_by_size "by_size" (defScope s_by_size) (He.ga K "by_size") cdv A outer s0 H0 E) (WofE E) := takes_of rfl rfl rfl rfl
  have po : PassesOwn (model P w) (cxOf (L2.CX P w) P w K mg base N_by_size "by_size" (defScope s_by_size) (He.ga K "by_size") cdv A outer s0 H0 E).A (cxOf (L2.CX P w) P w K mg base N_by_size "by_size" (defScope s_by_size) (He.ga K "by_size") cdv A outer s0 H0 E).env (cxOf (L2.CX P w) P w K mg base N_by_size "by_size" (defScope s_by_size) (He.ga K "by_size") cdv A outer s0 H0 E).xe := passes_of (X := (cxOf (L2.CX P w) P w K mg base N_by_size "by_size" (defScope s_by_size) (He.ga K "by_size") cdv A outer s0 H0 E)) rfl
  have hu := hr.units
  exact (s_cons (s_if (q_cmp (o_eq hu) (e_var (pv 0)) e_str (nomark _)) (s_one (s_ret (e_ix (e_lst (a_cons e_str (a_cons e_str a_nil))) (e_callTy c_int rfl Z.b_int bt_int (a_cons (e_var (pv 1)) a_nil))))) s_nil)
    (s_cons (s_if (q_cmp (o_eq hu) (e_var (pv 0)) e_str (nomark _)) (s_one (s_ret (e_ix (e_lst (a_cons e_str (a_cons e_str a_nil))) (e_callTy c_int rfl Z.b_int bt_int (a_cons (e_var (pv 1)) a_nil))))) s_nil)
    (s_one (s_ret (e_var (pv 0))))))
theorem sc_fitted : FnScope N_fitted ["whole", "power", "below", "manner"] (defScope s_fitted) := ⟨rfl, rfl, rfl, by decide +kernel, rfl, by decide +kernel, by decide +kernel⟩
theorem ok_fitted (Z : Top w K mg) : OkD P w K mg base T 3 "fitted" 4 d_fitted := by
  obtain ⟨fd, Fd⟩ := Z.f_fitted
  refine ⟨⟨fd, ["whole", "power", "below", "manner"], fn_ok Fd sc_fitted rfl fun cdv A outer s0 H0 E F0 hr => ?_, Fd.bindsN (ps := ["whole", "power", "below", "manner"]) (fun _ _ _ _ _ _ us hl => match us, hl with | [_, _, _, _], _ => rfl)⟩, Fd.kp, Z.m_fitted⟩
  have tk : Takes (cxOf (L2.CX P w) P w K mg base N_fitted "fitted" (defScope s_fitted) (He.ga K "fitted") cdv A outer s0 H0 E) (WofE E) := takes_of rfl rfl rfl rfl
  have po : PassesOwn (model P w) (cxOf (L2.CX P w) P w K mg base N_fitted "fitted" (defScope s_fitted) (He.ga K "fitted") cdv A outer s0 H0 E).A (cxOf (L2.CX P w) P w K mg base N_fitted "fitted" (defScope s_fitted) (He.ga K "fitted") cdv A outer s0 H0 E).env (cxOf (L2.CX P w) P w K mg base N_fitted "fitted" (defScope s_fitted) (He.ga K "fitted") cdv A outer s0 H0 E).xe := passes_of (X := (cxOf (L2.CX P w) P w K mg base N_fitted "fitted" (defScope s_fitted) (He.ga K "fitted") cdv A outer s0 H0 E)) rfl
  have hu := hr.units
  exact (s_cons (s_if (q_cmp (o_eq hu) (e_var (pv 0)) e_int (nomark _)) (s_one (s_ret (e_tup (a_cons e_int (a_cons e_int a_nil))))) s_nil)
    (s_cons (s_while 100000 po (q_cmp (o_eq hu) (e_bin o_mod (e_var (pv 0)) e_int) e_int (nomark _)) (s_cons (s_asg (e_bin o_div (e_var (pv 0)) e_int) (g_name (pg_name (i := 0) sc_fitted.nd rfl (Or.inl rfl))))
    (s_one (s_asg (e_bin o_add (e_var (pv 1)) e_int) (g_name (pg_name (i := 1) sc_fitted.nd rfl (Or.inl rfl)))))))
    (s_cons (s_asg (e_bin o_sub e_int (e_bin o_mul e_int (e_callTy c_int rfl Z.b_int bt_int (a_cons (e_var (pv 2)) a_nil)))) (g_name (pg_name (i := 4) sc_fitted.nd rfl (Or.inl rfl))))
    (s_cons (s_if (q_cmp o_gt (e_call (ok_height Z) hr tk rfl (a_cons (e_tup (a_cons (e_var (pv 0)) (a_cons (e_var (pv 1)) a_nil))) a_nil)) (e_gint Z.c_HIGHEST rfl) (nomark _)) (s_one (s_raise Z.e_TooGreat rfl tk rfl)) s_nil)
    (s_cons (s_if (q_cmp o_lt (e_call (ok_height Z) hr tk rfl (a_cons (e_tup (a_cons (e_var (pv 0)) (a_cons (e_var (pv 1)) a_nil))) a_nil)) (e_una u_neg (e_gint Z.c_HIGHEST rfl)) (nomark _)) (s_cons (s_if (q_cmp (o_eq hu) (e_var (pv 3)) e_str (nomark _)) (s_one (s_ret (e_tup (a_cons (e_var (pv 4)) (a_cons (e_una u_neg (e_gint Z.c_HIGHEST rfl)) a_nil))))) s_nil)
    (s_one (s_ret (e_tup (a_cons e_int (a_cons e_int a_nil)))))) s_nil)
    (s_one (s_ret (e_tup (a_cons (e_bin o_mul (e_var (pv 4)) (e_var (pv 0))) (a_cons (e_var (pv 1)) a_nil))))))))))
theorem sc_power_for : FnScope N_power_for ["upper", "lower"] (defScope s_power_for) := ⟨rfl, rfl, rfl, by decide +kernel, rfl, by decide +kernel, by decide +kernel⟩
theorem ok_power_for (Z : Top w K mg) : OkD P w K mg base T 2 "power_for" 2 d_power_for := by
  obtain ⟨fd, Fd⟩ := Z.f_power_for
  refine ⟨⟨fd, ["upper", "lower"], fn_ok Fd sc_power_for rfl fun cdv A outer s0 H0 E F0 hr => ?_, Fd.bindsN (ps := ["upper", "lower"]) (fun _ _ _ _ _ _ us hl => match us, hl with | [_, _], _ => rfl)⟩, Fd.kp, Z.m_power_for⟩
  have tk : Takes (cxOf (L2.CX P w) P w K mg base N_power_for "power_for" (defScope s_power_for) (He.ga K "power_for") cdv A outer s0 H0 E) (WofE E) := takes_of rfl rfl rfl rfl
  have po : PassesOwn (model P w) (cxOf (L2.CX P w) P w K mg base N_power_for "power_for" (defScope s_power_for) (He.ga K "power_for") cdv A outer s0 H0 E).A (cxOf (L2.CX P w) P w K mg base N_power_for "power_for" (defScope s_power_for) (He.ga K "power_for") cdv A outer s0 H0 E).env (cxOf (L2.CX P w) P w K mg base N_power_for "power_for" (defScope s_power_for) (He.ga K "power_for") cdv A outer s0 H0 E).xe := passes_of (X := (cxOf (L2.CX P w) P w K mg base N_power_for "power_for" (defScope s_power_for) (He.ga K "power_for") cdv A outer s0 H0 E)) rfl
  have hu := hr.units
  exact (s_cons (s_asg (e_bin o_sub (e_bin o_sub (e_call (ok_figures_of Z) hr tk rfl (a_cons (e_var (pv 0)) a_nil)) (e_call (ok_figures_of Z) hr tk rfl (a_cons (e_var (pv 1)) a_nil))) (e_gint Z.c_MOST rfl)) (g_name (pg_name (i := 2) sc_power_for.nd rfl (Or.inl rfl))))
    (s_cons (s_while 100000 po (q_cmp o_ge (e_bin o_mul (e_var (pv 0)) (e_call (ok_ten Z) hr tk rfl (a_cons (e_callB (c_max rfl) rfl Z.b_max bt_max (a_cons (e_una u_neg (e_var (pv 2))) (a_cons e_int a_nil))) a_nil))) (e_bin o_mul (e_bin o_mul (e_var (pv 1)) (e_call (ok_ten Z) hr tk rfl (a_cons (e_callB (c_max rfl) rfl Z.b_max bt_max (a_cons (e_var (pv 2)) (a_cons e_int a_nil))) a_nil))) (e_call (ok_ten Z) hr tk rfl (a_cons (e_gint Z.c_MOST rfl) a_nil))) (nomark _)) (s_one (s_asg (e_bin o_add (e_var (pv 2)) e_int) (g_name (pg_name (i := 2) sc_power_for.nd rfl (Or.inl rfl))))))
    (s_one (s_ret (e_var (pv 2))))))
theorem sc_exact : FnScope N_exact ["upper", "lower", "manner"] (defScope s_exact) := ⟨rfl, rfl, rfl, by decide +kernel, rfl, by decide +kernel, by decide +kernel⟩
theorem ok_exact (Z : Top w K mg) : OkD P w K mg base T 4 "exact" 3 d_exact := by
  obtain ⟨fd, Fd⟩ := Z.f_exact
  refine ⟨⟨fd, ["upper", "lower", "manner"], fn_ok Fd sc_exact rfl fun cdv A outer s0 H0 E F0 hr => ?_, Fd.bindsN (ps := ["upper", "lower", "manner"]) (fun _ _ _ _ _ _ us hl => match us, hl with | [_, _, _], _ => rfl)⟩, Fd.kp, Z.m_exact⟩
  have tk : Takes (cxOf (L2.CX P w) P w K mg base N_exact "exact" (defScope s_exact) (He.ga K "exact") cdv A outer s0 H0 E) (WofE E) := takes_of rfl rfl rfl rfl
  have po : PassesOwn (model P w) (cxOf (L2.CX P w) P w K mg base N_exact "exact" (defScope s_exact) (He.ga K "exact") cdv A outer s0 H0 E).A (cxOf (L2.CX P w) P w K mg base N_exact "exact" (defScope s_exact) (He.ga K "exact") cdv A outer s0 H0 E).env (cxOf (L2.CX P w) P w K mg base N_exact "exact" (defScope s_exact) (He.ga K "exact") cdv A outer s0 H0 E).xe := passes_of (X := (cxOf (L2.CX P w) P w K mg base N_exact "exact" (defScope s_exact) (He.ga K "exact") cdv A outer s0 H0 E)) rfl
  have hu := hr.units
  exact (s_cons (s_if (q_cmp (o_eq hu) (e_var (pv 0)) e_int (nomark _)) (s_one (s_ret (e_tup (a_cons e_int (a_cons e_int a_nil))))) s_nil)
    (s_cons (s_asg (e_cmp (o_ne hu) (e_cmp o_lt (e_var (pv 0)) e_int (nomark _)) (e_cmp o_lt (e_var (pv 1)) e_int (nomark _)) (nomark _)) (g_name (pg_name (i := 3) sc_exact.nd rfl (Or.inl rfl))))
    (s_cons (s_asg (e_callB c_abs rfl Z.b_abs bt_abs (a_cons (e_var (pv 0)) a_nil)) (g_name (pg_name (i := 0) sc_exact.nd rfl (Or.inl rfl))))
    (s_cons (s_asg (e_callB c_abs rfl Z.b_abs bt_abs (a_cons (e_var (pv 1)) a_nil)) (g_name (pg_name (i := 1) sc_exact.nd rfl (Or.inl rfl))))
    (s_cons (s_asg (e_call (ok_power_for Z) hr tk rfl (a_cons (e_var (pv 0)) (a_cons (e_var (pv 1)) a_nil))) (g_name (pg_name (i := 4) sc_exact.nd rfl (Or.inl rfl))))
    (s_cons (s_asg (e_bin o_mul (e_var (pv 0)) (e_call (ok_ten Z) hr tk rfl (a_cons (e_callB (c_max rfl) rfl Z.b_max bt_max (a_cons (e_una u_neg (e_var (pv 4))) (a_cons e_int a_nil))) a_nil))) (g_name (pg_name (i := 0) sc_exact.nd rfl (Or.inl rfl))))
    (s_cons (s_asg (e_bin o_mul (e_var (pv 1)) (e_call (ok_ten Z) hr tk rfl (a_cons (e_callB (c_max rfl) rfl Z.b_max bt_max (a_cons (e_var (pv 4)) (a_cons e_int a_nil))) a_nil))) (g_name (pg_name (i := 1) sc_exact.nd rfl (Or.inl rfl))))
    (s_cons (s_asg (e_call (ok_by_size Z) hr tk rfl (a_cons (e_var (pv 2)) (a_cons (e_var (pv 3)) a_nil))) (g_name (pg_name (i := 5) sc_exact.nd rfl (Or.inl rfl))))
    (s_one (s_ret (e_call (ok_fitted Z) hr tk rfl (a_cons (e_call (ok_taken Z) hr tk rfl (a_cons (e_bin o_div (e_var (pv 0)) (e_var (pv 1))) (a_cons (e_bin o_mod (e_var (pv 0)) (e_var (pv 1))) (a_cons (e_var (pv 1)) (a_cons (e_var (pv 5)) a_nil))))) (a_cons (e_var (pv 4)) (a_cons (e_var (pv 3)) (a_cons (e_var (pv 5)) a_nil)))))))))))))))
theorem sc_level : FnScope N_level ["one", "other"] (defScope s_level) := ⟨rfl, rfl, rfl, by decide +kernel, rfl, by decide +kernel, by decide +kernel⟩
theorem ok_level (Z : Top w K mg) : OkD P w K mg base T 2 "level" 2 d_level := by
  obtain ⟨fd, Fd⟩ := Z.f_level
  refine ⟨⟨fd, ["one", "other"], fn_ok Fd sc_level rfl fun cdv A outer s0 H0 E F0 hr => ?_, Fd.bindsN (ps := ["one", "other"]) (fun _ _ _ _ _ _ us hl => match us, hl with | [_, _], _ => rfl)⟩, Fd.kp, Z.m_level⟩
  have tk : Takes (cxOf (L2.CX P w) P w K mg base N_level "level" (defScope s_level) (He.ga K "level") cdv A outer s0 H0 E) (WofE E) := takes_of rfl rfl rfl rfl
  have po : PassesOwn (model P w) (cxOf (L2.CX P w) P w K mg base N_level "level" (defScope s_level) (He.ga K "level") cdv A outer s0 H0 E).A (cxOf (L2.CX P w) P w K mg base N_level "level" (defScope s_level) (He.ga K "level") cdv A outer s0 H0 E).env (cxOf (L2.CX P w) P w K mg base N_level "level" (defScope s_level) (He.ga K "level") cdv A outer s0 H0 E).xe := passes_of (X := (cxOf (L2.CX P w) P w K mg base N_level "level" (defScope s_level) (He.ga K "level") cdv A outer s0 H0 E)) rfl
  have hu := hr.units
  exact (s_cons (s_asg (e_callB (c_min rfl) rfl Z.b_min bt_min (a_cons (e_ix (e_var (pv 0)) e_int) (a_cons (e_ix (e_var (pv 1)) e_int) a_nil))) (g_name (pg_name (i := 2) sc_level.nd rfl (Or.inl rfl))))
    (s_one (s_ret (e_tup (a_cons (e_bin o_mul (e_ix (e_var (pv 0)) e_int) (e_call (ok_ten Z) hr tk rfl (a_cons (e_bin o_sub (e_ix (e_var (pv 0)) e_int) (e_var (pv 2))) a_nil))) (a_cons (e_bin o_mul (e_ix (e_var (pv 1)) e_int) (e_call (ok_ten Z) hr tk rfl (a_cons (e_bin o_sub (e_ix (e_var (pv 1)) e_int) (e_var (pv 2))) a_nil))) (a_cons (e_var (pv 2)) a_nil)))))))
theorem sc_of_power : FnScope N_of_power ["whole", "power", "manner"] (defScope s_of_power) := ⟨rfl, rfl, rfl, by decide +kernel, rfl, by decide +kernel, by decide +kernel⟩
theorem ok_of_power (Z : Top w K mg) : OkD P w K mg base T 5 "of_power" 3 d_of_power := by
  obtain ⟨fd, Fd⟩ := Z.f_of_power
  refine ⟨⟨fd, ["whole", "power", "manner"], fn_ok Fd sc_of_power rfl fun cdv A outer s0 H0 E F0 hr => ?_, Fd.bindsN (ps := ["whole", "power", "manner"]) (fun _ _ _ _ _ _ us hl => match us, hl with | [_, _, _], _ => rfl)⟩, Fd.kp, Z.m_of_power⟩
  have tk : Takes (cxOf (L2.CX P w) P w K mg base N_of_power "of_power" (defScope s_of_power) (He.ga K "of_power") cdv A outer s0 H0 E) (WofE E) := takes_of rfl rfl rfl rfl
  have po : PassesOwn (model P w) (cxOf (L2.CX P w) P w K mg base N_of_power "of_power" (defScope s_of_power) (He.ga K "of_power") cdv A outer s0 H0 E).A (cxOf (L2.CX P w) P w K mg base N_of_power "of_power" (defScope s_of_power) (He.ga K "of_power") cdv A outer s0 H0 E).env (cxOf (L2.CX P w) P w K mg base N_of_power "of_power" (defScope s_of_power) (He.ga K "of_power") cdv A outer s0 H0 E).xe := passes_of (X := (cxOf (L2.CX P w) P w K mg base N_of_power "of_power" (defScope s_of_power) (He.ga K "of_power") cdv A outer s0 H0 E)) rfl
  have hu := hr.units
  exact (s_one (s_ret (e_call (ok_exact Z) hr tk rfl (a_cons (e_bin o_mul (e_var (pv 0)) (e_call (ok_ten Z) hr tk rfl (a_cons (e_callB (c_max rfl) rfl Z.b_max bt_max (a_cons (e_var (pv 1)) (a_cons e_int a_nil))) a_nil))) (a_cons (e_call (ok_ten Z) hr tk rfl (a_cons (e_callB (c_max rfl) rfl Z.b_max bt_max (a_cons (e_una u_neg (e_var (pv 1))) (a_cons e_int a_nil))) a_nil)) (a_cons (e_var (pv 2)) a_nil))))))
theorem sc_plus : FnScope N_plus ["one", "other", "manner"] (defScope s_plus) := ⟨rfl, rfl, rfl, by decide +kernel, rfl, by decide +kernel, by decide +kernel⟩
theorem ok_plus (Z : Top w K mg) : OkD P w K mg base T 6 "plus" 3 d_plus := by
  obtain ⟨fd, Fd⟩ := Z.f_plus
  refine ⟨⟨fd, ["one", "other", "manner"], fn_ok Fd sc_plus rfl fun cdv A outer s0 H0 E F0 hr => ?_, Fd.bindsN (ps := ["one", "other", "manner"]) (fun _ _ _ _ _ _ us hl => match us, hl with | [_, _, _], _ => rfl)⟩, Fd.kp, Z.m_plus⟩
  have tk : Takes (cxOf (L2.CX P w) P w K mg base N_plus "plus" (defScope s_plus) (He.ga K "plus") cdv A outer s0 H0 E) (WofE E) := takes_of rfl rfl rfl rfl
  have po : PassesOwn (model P w) (cxOf (L2.CX P w) P w K mg base N_plus "plus" (defScope s_plus) (He.ga K "plus") cdv A outer s0 H0 E).A (cxOf (L2.CX P w) P w K mg base N_plus "plus" (defScope s_plus) (He.ga K "plus") cdv A outer s0 H0 E).env (cxOf (L2.CX P w) P w K mg base N_plus "plus" (defScope s_plus) (He.ga K "plus") cdv A outer s0 H0 E).xe := passes_of (X := (cxOf (L2.CX P w) P w K mg base N_plus "plus" (defScope s_plus) (He.ga K "plus") cdv A outer s0 H0 E)) rfl
  have hu := hr.units
  exact (s_cons (s_asg (e_call (ok_level Z) hr tk rfl (a_cons (e_var (pv 0)) (a_cons (e_var (pv 1)) a_nil))) (g_tup rfl (gs_cons (g_name (pg_name (i := 3) sc_plus.nd rfl (Or.inl rfl))) (gs_cons (g_name (pg_name (i := 4) sc_plus.nd rfl (Or.inl rfl))) (gs_cons (g_name (pg_name (i := 5) sc_plus.nd rfl (Or.inl rfl))) gs_nil)))))
    (s_one (s_ret (e_call (ok_of_power Z) hr tk rfl (a_cons (e_bin o_add (e_var (pv 3)) (e_var (pv 4))) (a_cons (e_var (pv 5)) (a_cons (e_var (pv 2)) a_nil)))))))
theorem sc_turned : FnScope N_turned ["one"] (defScope s_turned) := ⟨rfl, rfl, rfl, by decide +kernel, rfl, by decide +kernel, by decide +kernel⟩
theorem ok_turned (Z : Top w K mg) : OkD P w K mg base T 1 "turned" 1 d_turned := by
  obtain ⟨fd, Fd⟩ := Z.f_turned
  refine ⟨⟨fd, ["one"], fn_ok Fd sc_turned rfl fun cdv A outer s0 H0 E F0 hr => ?_, Fd.bindsN (ps := ["one"]) (fun _ _ _ _ _ _ us hl => match us, hl with | [_], _ => rfl)⟩, Fd.kp, Z.m_turned⟩
  have tk : Takes (cxOf (L2.CX P w) P w K mg base N_turned "turned" (defScope s_turned) (He.ga K "turned") cdv A outer s0 H0 E) (WofE E) := takes_of rfl rfl rfl rfl
  have po : PassesOwn (model P w) (cxOf (L2.CX P w) P w K mg base N_turned "turned" (defScope s_turned) (He.ga K "turned") cdv A outer s0 H0 E).A (cxOf (L2.CX P w) P w K mg base N_turned "turned" (defScope s_turned) (He.ga K "turned") cdv A outer s0 H0 E).env (cxOf (L2.CX P w) P w K mg base N_turned "turned" (defScope s_turned) (He.ga K "turned") cdv A outer s0 H0 E).xe := passes_of (X := (cxOf (L2.CX P w) P w K mg base N_turned "turned" (defScope s_turned) (He.ga K "turned") cdv A outer s0 H0 E)) rfl
  have hu := hr.units
  exact (s_one (s_ret (e_tup (a_cons (e_una u_neg (e_ix (e_var (pv 0)) e_int)) (a_cons (e_ix (e_var (pv 0)) e_int) a_nil)))))
theorem sc_minus : FnScope N_minus ["one", "other", "manner"] (defScope s_minus) := ⟨rfl, rfl, rfl, by decide +kernel, rfl, by decide +kernel, by decide +kernel⟩
theorem ok_minus (Z : Top w K mg) : OkD P w K mg base T 7 "minus" 3 d_minus := by
  obtain ⟨fd, Fd⟩ := Z.f_minus
  refine ⟨⟨fd, ["one", "other", "manner"], fn_ok Fd sc_minus rfl fun cdv A outer s0 H0 E F0 hr => ?_, Fd.bindsN (ps := ["one", "other", "manner"]) (fun _ _ _ _ _ _ us hl => match us, hl with | [_, _, _], _ => rfl)⟩, Fd.kp, Z.m_minus⟩
  have tk : Takes (cxOf (L2.CX P w) P w K mg base N_minus "minus" (defScope s_minus) (He.ga K "minus") cdv A outer s0 H0 E) (WofE E) := takes_of rfl rfl rfl rfl
  have po : PassesOwn (model P w) (cxOf (L2.CX P w) P w K mg base N_minus "minus" (defScope s_minus) (He.ga K "minus") cdv A outer s0 H0 E).A (cxOf (L2.CX P w) P w K mg base N_minus "minus" (defScope s_minus) (He.ga K "minus") cdv A outer s0 H0 E).env (cxOf (L2.CX P w) P w K mg base N_minus "minus" (defScope s_minus) (He.ga K "minus") cdv A outer s0 H0 E).xe := passes_of (X := (cxOf (L2.CX P w) P w K mg base N_minus "minus" (defScope s_minus) (He.ga K "minus") cdv A outer s0 H0 E)) rfl
  have hu := hr.units
  exact (s_one (s_ret (e_call (ok_plus Z) hr tk rfl (a_cons (e_var (pv 0)) (a_cons (e_call (ok_turned Z) hr tk rfl (a_cons (e_var (pv 1)) a_nil)) (a_cons (e_var (pv 2)) a_nil))))))
theorem sc_times : FnScope N_times ["one", "other", "manner"] (defScope s_times) := ⟨rfl, rfl, rfl, by decide +kernel, rfl, by decide +kernel, by decide +kernel⟩
theorem ok_times (Z : Top w K mg) : OkD P w K mg base T 6 "times" 3 d_times := by
  obtain ⟨fd, Fd⟩ := Z.f_times
  refine ⟨⟨fd, ["one", "other", "manner"], fn_ok Fd sc_times rfl fun cdv A outer s0 H0 E F0 hr => ?_, Fd.bindsN (ps := ["one", "other", "manner"]) (fun _ _ _ _ _ _ us hl => match us, hl with | [_, _, _], _ => rfl)⟩, Fd.kp, Z.m_times⟩
  have tk : Takes (cxOf (L2.CX P w) P w K mg base N_times "times" (defScope s_times) (He.ga K "times") cdv A outer s0 H0 E) (WofE E) := takes_of rfl rfl rfl rfl
  have po : PassesOwn (model P w) (cxOf (L2.CX P w) P w K mg base N_times "times" (defScope s_times) (He.ga K "times") cdv A outer s0 H0 E).A (cxOf (L2.CX P w) P w K mg base N_times "times" (defScope s_times) (He.ga K "times") cdv A outer s0 H0 E).env (cxOf (L2.CX P w) P w K mg base N_times "times" (defScope s_times) (He.ga K "times") cdv A outer s0 H0 E).xe := passes_of (X := (cxOf (L2.CX P w) P w K mg base N_times "times" (defScope s_times) (He.ga K "times") cdv A outer s0 H0 E)) rfl
  have hu := hr.units
  exact (s_one (s_ret (e_call (ok_of_power Z) hr tk rfl (a_cons (e_bin o_mul (e_ix (e_var (pv 0)) e_int) (e_ix (e_var (pv 1)) e_int)) (a_cons (e_bin o_add (e_ix (e_var (pv 0)) e_int) (e_ix (e_var (pv 1)) e_int)) (a_cons (e_var (pv 2)) a_nil))))))
theorem sc_over : FnScope N_over ["one", "other", "manner"] (defScope s_over) := ⟨rfl, rfl, rfl, by decide +kernel, rfl, by decide +kernel, by decide +kernel⟩
theorem ok_over (Z : Top w K mg) : OkD P w K mg base T 5 "over" 3 d_over := by
  obtain ⟨fd, Fd⟩ := Z.f_over
  refine ⟨⟨fd, ["one", "other", "manner"], fn_ok Fd sc_over rfl fun cdv A outer s0 H0 E F0 hr => ?_, Fd.bindsN (ps := ["one", "other", "manner"]) (fun _ _ _ _ _ _ us hl => match us, hl with | [_, _, _], _ => rfl)⟩, Fd.kp, Z.m_over⟩
  have tk : Takes (cxOf (L2.CX P w) P w K mg base N_over "over" (defScope s_over) (He.ga K "over") cdv A outer s0 H0 E) (WofE E) := takes_of rfl rfl rfl rfl
  have po : PassesOwn (model P w) (cxOf (L2.CX P w) P w K mg base N_over "over" (defScope s_over) (He.ga K "over") cdv A outer s0 H0 E).A (cxOf (L2.CX P w) P w K mg base N_over "over" (defScope s_over) (He.ga K "over") cdv A outer s0 H0 E).env (cxOf (L2.CX P w) P w K mg base N_over "over" (defScope s_over) (He.ga K "over") cdv A outer s0 H0 E).xe := passes_of (X := (cxOf (L2.CX P w) P w K mg base N_over "over" (defScope s_over) (He.ga K "over") cdv A outer s0 H0 E)) rfl
  have hu := hr.units
  exact (s_cons (s_if (q_cmp (o_eq hu) (e_ix (e_var (pv 1)) e_int) e_int (nomark _)) (s_one (s_raise Z.e_NoDeed rfl tk rfl)) s_nil)
    (s_cons (s_asg (e_bin o_sub (e_ix (e_var (pv 0)) e_int) (e_ix (e_var (pv 1)) e_int)) (g_name (pg_name (i := 3) sc_over.nd rfl (Or.inl rfl))))
    (s_one (s_ret (e_call (ok_exact Z) hr tk rfl (a_cons (e_bin o_mul (e_ix (e_var (pv 0)) e_int) (e_call (ok_ten Z) hr tk rfl (a_cons (e_callB (c_max rfl) rfl Z.b_max bt_max (a_cons (e_var (pv 3)) (a_cons e_int a_nil))) a_nil))) (a_cons (e_bin o_mul (e_ix (e_var (pv 1)) e_int) (e_call (ok_ten Z) hr tk rfl (a_cons (e_callB (c_max rfl) rfl Z.b_max bt_max (a_cons (e_una u_neg (e_var (pv 3))) (a_cons e_int a_nil))) a_nil))) (a_cons (e_var (pv 2)) a_nil))))))))
theorem sc_less : FnScope N_less ["one", "other"] (defScope s_less) := ⟨rfl, rfl, rfl, by decide +kernel, rfl, by decide +kernel, by decide +kernel⟩
theorem ok_less (Z : Top w K mg) : OkD P w K mg base T 3 "less" 2 d_less := by
  obtain ⟨fd, Fd⟩ := Z.f_less
  refine ⟨⟨fd, ["one", "other"], fn_ok Fd sc_less rfl fun cdv A outer s0 H0 E F0 hr => ?_, Fd.bindsN (ps := ["one", "other"]) (fun _ _ _ _ _ _ us hl => match us, hl with | [_, _], _ => rfl)⟩, Fd.kp, Z.m_less⟩
  have tk : Takes (cxOf (L2.CX P w) P w K mg base N_less "less" (defScope s_less) (He.ga K "less") cdv A outer s0 H0 E) (WofE E) := takes_of rfl rfl rfl rfl
  have po : PassesOwn (model P w) (cxOf (L2.CX P w) P w K mg base N_less "less" (defScope s_less) (He.ga K "less") cdv A outer s0 H0 E).A (cxOf (L2.CX P w) P w K mg base N_less "less" (defScope s_less) (He.ga K "less") cdv A outer s0 H0 E).env (cxOf (L2.CX P w) P w K mg base N_less "less" (defScope s_less) (He.ga K "less") cdv A outer s0 H0 E).xe := passes_of (X := (cxOf (L2.CX P w) P w K mg base N_less "less" (defScope s_less) (He.ga K "less") cdv A outer s0 H0 E)) rfl
  have hu := hr.units
  exact (s_cons (s_asg (e_call (ok_level Z) hr tk rfl (a_cons (e_var (pv 0)) (a_cons (e_var (pv 1)) a_nil))) (g_tup rfl (gs_cons (g_name (pg_name (i := 2) sc_less.nd rfl (Or.inl rfl))) (gs_cons (g_name (pg_name (i := 3) sc_less.nd rfl (Or.inl rfl))) (gs_cons (g_name (pg_name (i := 4) sc_less.nd rfl (Or.inl rfl))) gs_nil)))))
    (s_one (s_ret (e_cmp o_lt (e_var (pv 2)) (e_var (pv 3)) (nomark _)))))
theorem sc_whole_root : FnScope N_whole_root ["whole"] (defScope s_whole_root) := ⟨rfl, rfl, rfl, by decide +kernel, rfl, by decide +kernel, by decide +kernel⟩
theorem ok_whole_root (Z : Top w K mg) : OkD P w K mg base T 2 "whole_root" 1 d_whole_root := by
  obtain ⟨fd, Fd⟩ := Z.f_whole_root
  refine ⟨⟨fd, ["whole"], fn_ok Fd sc_whole_root rfl fun cdv A outer s0 H0 E F0 hr => ?_, Fd.bindsN (ps := ["whole"]) (fun _ _ _ _ _ _ us hl => match us, hl with | [_], _ => rfl)⟩, Fd.kp, Z.m_whole_root⟩
  have tk : Takes (cxOf (L2.CX P w) P w K mg base N_whole_root "whole_root" (defScope s_whole_root) (He.ga K "whole_root") cdv A outer s0 H0 E) (WofE E) := takes_of rfl rfl rfl rfl
  have po : PassesOwn (model P w) (cxOf (L2.CX P w) P w K mg base N_whole_root "whole_root" (defScope s_whole_root) (He.ga K "whole_root") cdv A outer s0 H0 E).A (cxOf (L2.CX P w) P w K mg base N_whole_root "whole_root" (defScope s_whole_root) (He.ga K "whole_root") cdv A outer s0 H0 E).env (cxOf (L2.CX P w) P w K mg base N_whole_root "whole_root" (defScope s_whole_root) (He.ga K "whole_root") cdv A outer s0 H0 E).xe := passes_of (X := (cxOf (L2.CX P w) P w K mg base N_whole_root "whole_root" (defScope s_whole_root) (He.ga K "whole_root") cdv A outer s0 H0 E)) rfl
  have hu := hr.units
  exact (s_cons (s_asg e_int (g_name (pg_name (i := 1) sc_whole_root.nd rfl (Or.inl rfl))))
    (s_cons (s_asg (e_call (ok_ten Z) hr tk rfl (a_cons (e_bin o_add (e_bin o_div (e_bin o_add (e_call (ok_figures_of Z) hr tk rfl (a_cons (e_var (pv 0)) a_nil)) e_int) e_int) e_int) a_nil)) (g_name (pg_name (i := 2) sc_whole_root.nd rfl (Or.inl rfl))))
    (s_cons (s_while 100000 po (q_cmp o_gt (e_bin o_sub (e_var (pv 2)) (e_var (pv 1))) e_int (nomark _)) (s_cons (s_asg (e_bin o_div (e_bin o_add (e_var (pv 1)) (e_var (pv 2))) e_int) (g_name (pg_name (i := 3) sc_whole_root.nd rfl (Or.inl rfl))))
    (s_one (s_if (q_cmp o_le (e_bin o_mul (e_var (pv 3)) (e_var (pv 3))) (e_var (pv 0)) (nomark _)) (s_one (s_asg (e_var (pv 3)) (g_name (pg_name (i := 1) sc_whole_root.nd rfl (Or.inl rfl))))) (s_one (s_asg (e_var (pv 3)) (g_name (pg_name (i := 2) sc_whole_root.nd rfl (Or.inl rfl)))))))))
    (s_one (s_ret (e_var (pv 1)))))))
theorem sc_root : FnScope N_root ["one", "manner"] (defScope s_root) := ⟨rfl, rfl, rfl, by decide +kernel, rfl, by decide +kernel, by decide +kernel⟩
theorem ok_root (Z : Top w K mg) : OkD P w K mg base T 4 "root" 2 d_root := by
  obtain ⟨fd, Fd⟩ := Z.f_root
  refine ⟨⟨fd, ["one", "manner"], fn_ok Fd sc_root rfl fun cdv A outer s0 H0 E F0 hr => ?_, Fd.bindsN (ps := ["one", "manner"]) (fun _ _ _ _ _ _ us hl => match us, hl with | [_, _], _ => rfl)⟩, Fd.kp, Z.m_root⟩
  have tk : Takes (cxOf (L2.CX P w) P w K mg base N_root "root" (defScope s_root) (He.ga K "root") cdv A outer s0 H0 E) (WofE E) := takes_of rfl rfl rfl rfl
  have po : PassesOwn (model P w) (cxOf (L2.CX P w) P w K mg base N_root "root" (defScope s_root) (He.ga K "root") cdv A outer s0 H0 E).A (cxOf (L2.CX P w) P w K mg base N_root "root" (defScope s_root) (He.ga K "root") cdv A outer s0 H0 E).env (cxOf (L2.CX P w) P w K mg base N_root "root" (defScope s_root) (He.ga K "root") cdv A outer s0 H0 E).xe := passes_of (X := (cxOf (L2.CX P w) P w K mg base N_root "root" (defScope s_root) (He.ga K "root") cdv A outer s0 H0 E)) rfl
  have hu := hr.units
  exact (s_cons (s_asg (e_var (pv 0)) (g_tup rfl (gs_cons (g_name (pg_name (i := 2) sc_root.nd rfl (Or.inl rfl))) (gs_cons (g_name (pg_name (i := 3) sc_root.nd rfl (Or.inl rfl))) gs_nil))))
    (s_cons (s_if (q_cmp o_lt (e_var (pv 2)) e_int (nomark _)) (s_one (s_raise Z.e_NoDeed rfl tk rfl)) s_nil)
    (s_cons (s_if (q_cmp (o_eq hu) (e_var (pv 2)) e_int (nomark _)) (s_one (s_ret (e_var (pv 0)))) s_nil)
    (s_cons (s_if (q_cmp (o_eq hu) (e_bin o_mod (e_var (pv 3)) e_int) e_int (nomark _)) (s_cons (s_asg (e_bin o_mul (e_var (pv 2)) e_int) (g_name (pg_name (i := 2) sc_root.nd rfl (Or.inl rfl))))
    (s_one (s_asg (e_bin o_sub (e_var (pv 3)) e_int) (g_name (pg_name (i := 3) sc_root.nd rfl (Or.inl rfl)))))) s_nil)
    (s_cons (s_asg (e_bin o_div (e_var (pv 3)) e_int) (g_name (pg_name (i := 3) sc_root.nd rfl (Or.inl rfl))))
    (s_cons (s_while 100000 po (q_cmp o_lt (e_var (pv 2)) (e_call (ok_ten Z) hr tk rfl (a_cons (e_bin o_sub (e_bin o_mul e_int (e_gint Z.c_MOST rfl)) e_int) a_nil)) (nomark _)) (s_cons (s_asg (e_bin o_mul (e_var (pv 2)) e_int) (g_name (pg_name (i := 2) sc_root.nd rfl (Or.inl rfl))))
    (s_one (s_asg (e_bin o_sub (e_var (pv 3)) e_int) (g_name (pg_name (i := 3) sc_root.nd rfl (Or.inl rfl)))))))
    (s_cons (s_asg (e_call (ok_whole_root Z) hr tk rfl (a_cons (e_var (pv 2)) a_nil)) (g_name (pg_name (i := 4) sc_root.nd rfl (Or.inl rfl))))
    (s_cons (s_asg (e_call (ok_by_size Z) hr tk rfl (a_cons (e_var (pv 1)) (a_cons e_bl a_nil))) (g_name (pg_name (i := 5) sc_root.nd rfl (Or.inl rfl))))
    (s_cons (s_if (q_w (w_and (q_cmp (o_eq hu) (e_var (pv 5)) e_str (nomark _)) (w_and1 (q_cmp o_lt (e_bin o_mul (e_var (pv 4)) (e_var (pv 4))) (e_var (pv 2)) (nomark _))))) (s_one (s_asg (e_bin o_add (e_var (pv 4)) e_int) (g_name (pg_name (i := 4) sc_root.nd rfl (Or.inl rfl))))) s_nil)
    (s_cons (s_if (q_w (w_and (q_cmp (o_in hu) (e_var (pv 5)) (e_tup (a_cons e_str (a_cons e_str a_nil))) (by rfl)) (w_and1 (q_cmp o_lt (e_bin o_mul (e_bin o_add (e_bin o_mul e_int (e_var (pv 4))) e_int) (e_bin o_add (e_bin o_mul e_int (e_var (pv 4))) e_int)) (e_bin o_mul e_int (e_var (pv 2))) (nomark _))))) (s_one (s_asg (e_bin o_add (e_var (pv 4)) e_int) (g_name (pg_name (i := 4) sc_root.nd rfl (Or.inl rfl))))) s_nil)
    (s_one (s_ret (e_call (ok_fitted Z) hr tk rfl (a_cons (e_var (pv 4)) (a_cons (e_var (pv 3)) (a_cons e_bl (a_cons (e_var (pv 5)) a_nil)))))))))))))))))
theorem sc_is_key : FnScope N_is_key ["thing"] (defScope s_is_key) := ⟨rfl, rfl, rfl, by decide +kernel, rfl, by decide +kernel, by decide +kernel⟩
theorem ok_is_key (Z : Top w K mg) : OkD P w K mg base T 8 "is_key" 1 d_is_key := by
  obtain ⟨fd, Fd⟩ := Z.f_is_key
  refine ⟨⟨fd, ["thing"], fn_ok Fd sc_is_key rfl fun cdv A outer s0 H0 E F0 hr => ?_, Fd.bindsN (ps := ["thing"]) (fun _ _ _ _ _ _ us hl => match us, hl with | [_], _ => rfl)⟩, Fd.kp, Z.m_is_key⟩
  have tk : Takes (cxOf (L2.CX P w) P w K mg base N_is_key "is_key" (defScope s_is_key) (He.ga K "is_key") cdv A outer s0 H0 E) (WofE E) := takes_of rfl rfl rfl rfl
  have po : PassesOwn (model P w) (cxOf (L2.CX P w) P w K mg base N_is_key "is_key" (defScope s_is_key) (He.ga K "is_key") cdv A outer s0 H0 E).A (cxOf (L2.CX P w) P w K mg base N_is_key "is_key" (defScope s_is_key) (He.ga K "is_key") cdv A outer s0 H0 E).env (cxOf (L2.CX P w) P w K mg base N_is_key "is_key" (defScope s_is_key) (He.ga K "is_key") cdv A outer s0 H0 E).xe := passes_of (X := (cxOf (L2.CX P w) P w K mg base N_is_key "is_key" (defScope s_is_key) (He.ga K "is_key") cdv A outer s0 H0 E)) rfl
  have hu := hr.units
  exact (s_cons (s_if (q_not (q_val (e_callB c_isi rfl Z.b_isinstance bt_isinstance (a_cons (e_var (pv 0)) (a_cons (e_ty Z.b_str bt_str rfl) a_nil))))) (s_one (s_ret e_bl)) s_nil)
    (s_cons (s_if (q_w (w_or (q_cmp (o_in hu) (e_var (pv 0)) (e_gtup (zs := ["sign", "enter", "root", "swap", "roll", "last", "clear"]) Z.m_PLAIN_KEYS Z.c_PLAIN_KEYS rfl) (by rfl)) (w_or (q_inT Z.d_DEEDS rfl (e_var (pv 0))) (w_or1 (q_cmp (o_eq hu) (e_var (pv 0)) e_str (nomark _)))))) (s_one (s_ret e_bl)) s_nil)
    (s_cons (s_if (q_cmp (o_eq hu) (e_callB c_len rfl Z.b_len bt_len (a_cons (e_var (pv 0)) a_nil)) e_int (nomark _)) (s_one (s_ret (e_cmp (o_in hu) (e_var (pv 0)) (e_gstr Z.c_FIGURES rfl) (by rfl)))) s_nil)
    (s_one (s_ret (e_and (e_cmp (o_eq hu) (e_callB c_len rfl Z.b_len bt_len (a_cons (e_var (pv 0)) a_nil)) e_int (nomark _)) (e_and (e_cmp (o_in hu) (e_sl (e_var (pv 0)) p_none (p_some e_int)) (e_tup (a_cons e_str (a_cons e_str a_nil))) (by rfl)) (e_one (e_cmp (o_in hu) (e_ix (e_var (pv 0)) e_int) (e_gstr Z.c_FIGURES rfl) (by rfl))))))))))
theorem sc_begin : FnScope N_begin ["manner"] (defScope s_begin) := ⟨rfl, rfl, rfl, by decide +kernel, rfl, by decide +kernel, by decide +kernel⟩
theorem ok_begin (Z : Top w K mg) : OkD P w K mg base T 1 "begin" 1 d_begin := by
  obtain ⟨fd, Fd⟩ := Z.f_begin
  refine ⟨⟨fd, ["manner"], fn_ok Fd sc_begin rfl fun cdv A outer s0 H0 E F0 hr => ?_, Fd.bindsN (ps := ["manner"]) (fun _ _ _ _ _ _ us hl => match us, hl with | [_], _ => rfl)⟩, Fd.kp, Z.m_begin⟩
  have tk : Takes (cxOf (L2.CX P w) P w K mg base N_begin "begin" (defScope s_begin) (He.ga K "begin") cdv A outer s0 H0 E) (WofE E) := takes_of rfl rfl rfl rfl
  have po : PassesOwn (model P w) (cxOf (L2.CX P w) P w K mg base N_begin "begin" (defScope s_begin) (He.ga K "begin") cdv A outer s0 H0 E).A (cxOf (L2.CX P w) P w K mg base N_begin "begin" (defScope s_begin) (He.ga K "begin") cdv A outer s0 H0 E).env (cxOf (L2.CX P w) P w K mg base N_begin "begin" (defScope s_begin) (He.ga K "begin") cdv A outer s0 H0 E).xe := passes_of (X := (cxOf (L2.CX P w) P w K mg base N_begin "begin" (defScope s_begin) (He.ga K "begin") cdv A outer s0 H0 E)) rfl
  have hu := hr.units
  exact (s_one (s_ret (e_tup (a_cons (e_var (pv 0)) (a_cons (e_bin o_mul (e_tup (a_cons (e_gtupI (zs := [0, 0]) Z.m_ZERO Z.c_ZERO rfl) a_nil)) e_int) (a_cons (e_gtupI (zs := [0, 0]) Z.m_ZERO Z.c_ZERO rfl) (a_cons (e_bin o_mul (e_tup (a_cons (e_gtupI (zs := [0, 0]) Z.m_ZERO Z.c_ZERO rfl) a_nil)) (e_gint Z.c_BOXES rfl)) (a_cons e_non (a_cons e_bl (a_cons e_non a_nil))))))))))
theorem sc_told_by : FnScope N_told_by ["entry"] (defScope s_told_by) := ⟨rfl, rfl, rfl, by decide +kernel, rfl, by decide +kernel, by decide +kernel⟩
theorem ok_told_by (Z : Top w K mg) : OkD P w K mg base T 5 "told_by" 1 d_told_by := by
  obtain ⟨fd, Fd⟩ := Z.f_told_by
  refine ⟨⟨fd, ["entry"], fn_ok Fd sc_told_by rfl fun cdv A outer s0 H0 E F0 hr => ?_, Fd.bindsN (ps := ["entry"]) (fun _ _ _ _ _ _ us hl => match us, hl with | [_], _ => rfl)⟩, Fd.kp, Z.m_told_by⟩
  have tk : Takes (cxOf (L2.CX P w) P w K mg base N_told_by "told_by" (defScope s_told_by) (He.ga K "told_by") cdv A outer s0 H0 E) (WofE E) := takes_of rfl rfl rfl rfl
  have po : PassesOwn (model P w) (cxOf (L2.CX P w) P w K mg base N_told_by "told_by" (defScope s_told_by) (He.ga K "told_by") cdv A outer s0 H0 E).A (cxOf (L2.CX P w) P w K mg base N_told_by "told_by" (defScope s_told_by) (He.ga K "told_by") cdv A outer s0 H0 E).env (cxOf (L2.CX P w) P w K mg base N_told_by "told_by" (defScope s_told_by) (He.ga K "told_by") cdv A outer s0 H0 E).xe := passes_of (X := (cxOf (L2.CX P w) P w K mg base N_told_by "told_by" (defScope s_told_by) (He.ga K "told_by") cdv A outer s0 H0 E)) rfl
  have hu := hr.units
  exact (s_cons (s_asg (e_met PySem.F.plainAttrs_str PySem.F.slot_str_partition PySem.F.type_str_partition m_part (e_var (pv 0)) (a_cons e_str a_nil)) (g_tup rfl (gs_cons (g_name (pg_name (i := 1) sc_told_by.nd rfl (Or.inl rfl))) (gs_cons (g_name (pg_name (i := 2) sc_told_by.nd rfl (Or.inl rfl))) (gs_cons (g_name (pg_name (i := 3) sc_told_by.nd rfl (Or.inl rfl))) gs_nil)))))
    (s_one (s_ret (e_call (ok_exact Z) hr tk rfl (a_cons (e_callTy c_int rfl Z.b_int bt_int (a_cons (e_bin o_add (e_var (pv 1)) (e_var (pv 3))) a_nil)) (a_cons (e_call (ok_ten Z) hr tk rfl (a_cons (e_callB c_len rfl Z.b_len bt_len (a_cons (e_var (pv 3)) a_nil)) a_nil)) (a_cons e_str a_nil)))))))
theorem sc_lifted : FnScope N_lifted ["pile"] (defScope s_lifted) := ⟨rfl, rfl, rfl, by decide +kernel, rfl, by decide +kernel, by decide +kernel⟩
theorem ok_lifted (Z : Top w K mg) : OkD P w K mg base T 1 "lifted" 1 d_lifted := by
  obtain ⟨fd, Fd⟩ := Z.f_lifted
  refine ⟨⟨fd, ["pile"], fn_ok Fd sc_lifted rfl fun cdv A outer s0 H0 E F0 hr => ?_, Fd.bindsN (ps := ["pile"]) (fun _ _ _ _ _ _ us hl => match us, hl with | [_], _ => rfl)⟩, Fd.kp, Z.m_lifted⟩
  have tk : Takes (cxOf (L2.CX P w) P w K mg base N_lifted "lifted" (defScope s_lifted) (He.ga K "lifted") cdv A outer s0 H0 E) (WofE E) := takes_of rfl rfl rfl rfl
  have po : PassesOwn (model P w) (cxOf (L2.CX P w) P w K mg base N_lifted "lifted" (defScope s_lifted) (He.ga K "lifted") cdv A outer s0 H0 E).A (cxOf (L2.CX P w) P w K mg base N_lifted "lifted" (defScope s_lifted) (He.ga K "lifted") cdv A outer s0 H0 E).env (cxOf (L2.CX P w) P w K mg base N_lifted "lifted" (defScope s_lifted) (He.ga K "lifted") cdv A outer s0 H0 E).xe := passes_of (X := (cxOf (L2.CX P w) P w K mg base N_lifted "lifted" (defScope s_lifted) (He.ga K "lifted") cdv A outer s0 H0 E)) rfl
  have hu := hr.units
  exact (s_one (s_ret (e_bin o_add (e_tup (a_cons (e_ix (e_var (pv 0)) e_int) a_nil)) (e_sl (e_var (pv 0)) p_none (p_some e_int)))))
theorem sc_if_due : FnScope N_if_due ["pile", "lift"] (defScope s_if_due) := ⟨rfl, rfl, rfl, by decide +kernel, rfl, by decide +kernel, by decide +kernel⟩
theorem ok_if_due (Z : Top w K mg) : OkD P w K mg base T 2 "if_due" 2 d_if_due := by
  obtain ⟨fd, Fd⟩ := Z.f_if_due
  refine ⟨⟨fd, ["pile", "lift"], fn_ok Fd sc_if_due rfl fun cdv A outer s0 H0 E F0 hr => ?_, Fd.bindsN (ps := ["pile", "lift"]) (fun _ _ _ _ _ _ us hl => match us, hl with | [_, _], _ => rfl)⟩, Fd.kp, Z.m_if_due⟩
  have tk : Takes (cxOf (L2.CX P w) P w K mg base N_if_due "if_due" (defScope s_if_due) (He.ga K "if_due") cdv A outer s0 H0 E) (WofE E) := takes_of rfl rfl rfl rfl
  have po : PassesOwn (model P w) (cxOf (L2.CX P w) P w K mg base N_if_due "if_due" (defScope s_if_due) (He.ga K "if_due") cdv A outer s0 H0 E).A (cxOf (L2.CX P w) P w K mg base N_if_due "if_due" (defScope s_if_due) (He.ga K "if_due") cdv A outer s0 H0 E).env (cxOf (L2.CX P w) P w K mg base N_if_due "if_due" (defScope s_if_due) (He.ga K "if_due") cdv A outer s0 H0 E).xe := passes_of (X := (cxOf (L2.CX P w) P w K mg base N_if_due "if_due" (defScope s_if_due) (He.ga K "if_due") cdv A outer s0 H0 E)) rfl
  have hu := hr.units
  exact (s_cons (s_if (q_val (e_var (pv 1))) (s_one (s_ret (e_call (ok_lifted Z) hr tk rfl (a_cons (e_var (pv 0)) a_nil)))) s_nil)
    (s_one (s_ret (e_var (pv 0)))))
theorem sc_typed : FnScope N_typed ["state", "key"] (defScope s_typed) := ⟨rfl, rfl, rfl, by decide +kernel, rfl, by decide +kernel, by decide +kernel⟩
theorem ok_typed (Z : Top w K mg) : OkD P w K mg base T 6 "typed" 2 d_typed := by
  obtain ⟨fd, Fd⟩ := Z.f_typed
  refine ⟨⟨fd, ["state", "key"], fn_ok Fd sc_typed rfl fun cdv A outer s0 H0 E F0 hr => ?_, Fd.bindsN (ps := ["state", "key"]) (fun _ _ _ _ _ _ us hl => match us, hl with | [_, _], _ => rfl)⟩, Fd.kp, Z.m_typed⟩
  have tk : Takes (cxOf (L2.CX P w) P w K mg base N_typed "typed" (defScope s_typed) (He.ga K "typed") cdv A outer s0 H0 E) (WofE E) := takes_of rfl rfl rfl rfl
  have po : PassesOwn (model P w) (cxOf (L2.CX P w) P w K mg base N_typed "typed" (defScope s_typed) (He.ga K "typed") cdv A outer s0 H0 E).A (cxOf (L2.CX P w) P w K mg base N_typed "typed" (defScope s_typed) (He.ga K "typed") cdv A outer s0 H0 E).env (cxOf (L2.CX P w) P w K mg base N_typed "typed" (defScope s_typed) (He.ga K "typed") cdv A outer s0 H0 E).xe := passes_of (X := (cxOf (L2.CX P w) P w K mg base N_typed "typed" (defScope s_typed) (He.ga K "typed") cdv A outer s0 H0 E)) rfl
  have hu := hr.units
  exact (s_cons (s_asg (e_var (pv 0)) (g_tup rfl (gs_cons (g_name (pg_name (i := 2) sc_typed.nd rfl (Or.inl rfl))) (gs_cons (g_name (pg_name (i := 3) sc_typed.nd rfl (Or.inl rfl))) (gs_cons (g_name (pg_name (i := 4) sc_typed.nd rfl (Or.inl rfl))) (gs_cons (g_name (pg_name (i := 5) sc_typed.nd rfl (Or.inl rfl))) (gs_cons (g_name (pg_name (i := 6) sc_typed.nd rfl (Or.inl rfl))) (gs_cons (g_name (pg_name (i := 7) sc_typed.nd rfl (Or.inl rfl))) (gs_cons (g_name (pg_name (i := 8) sc_typed.nd rfl (Or.inl rfl))) gs_nil)))))))))
    (s_cons (s_if (q_cmp o_is (e_var (pv 6)) e_non (nomark _)) (s_cons (s_asg (e_call (ok_if_due Z) hr tk rfl (a_cons (e_var (pv 3)) (a_cons (e_var (pv 7)) a_nil))) (g_name (pg_name (i := 3) sc_typed.nd rfl (Or.inl rfl))))
    (s_one (s_asg (e_dget (ks := ["."]) (lt1 hu) (dp_cons e_str dp_nil) (e_var (pv 1)) (e_var (pv 1)) (by simp) (by decide) (by decide +kernel) ⟨rfl, rfl, rfl, rfl⟩) (g_name (pg_name (i := 6) sc_typed.nd rfl (Or.inl rfl)))))) (s_one (s_if (q_cmp (o_eq hu) (e_var (pv 1)) e_str (nomark _)) (s_one (s_if (q_cmp (o_ni hu) e_str (e_var (pv 6)) (by rfl)) (s_one (s_asg (e_bin o_add (e_var (pv 6)) (e_var (pv 1))) (g_name (pg_name (i := 6) sc_typed.nd rfl (Or.inl rfl))))) s_nil)) (s_one (s_if (q_cmp o_lt (e_callB c_len rfl Z.b_len bt_len (a_cons (e_lc (x := "sign") (i := 9) rfl sc_typed.nd (i_any (e_var (pv 6))) (blkOk_by (N := N_typed) (sc := defScope s_typed) (by decide +kernel)) (fun _ _ _ _ _ => pg_name (i := 9) sc_typed.nd rfl (Or.inl rfl)) (fun _ _ _ _ _ => (ts_one (q_cmp (o_in hu) (e_var (pv 9)) (e_gstr Z.c_FIGURES rfl) (by rfl)))) (fun _ _ _ _ _ => (e_var (pv 9)))) a_nil)) (e_gint Z.c_MOST rfl) (nomark _)) (s_one (s_asg (e_bin o_add (e_var (pv 6)) (e_var (pv 1))) (g_name (pg_name (i := 6) sc_typed.nd rfl (Or.inl rfl))))) s_nil)))))
    (s_one (s_ret (e_tup (a_cons (e_var (pv 2)) (a_cons (e_bin o_add (e_tup (a_cons (e_call (ok_told_by Z) hr tk rfl (a_cons (e_var (pv 6)) a_nil)) a_nil)) (e_sl (e_var (pv 3)) (p_some e_int) p_none)) (a_cons (e_var (pv 4)) (a_cons (e_var (pv 5)) (a_cons (e_var (pv 6)) (a_cons (e_var (pv 7)) (a_cons (e_var (pv 8)) a_nil))))))))))))
theorem sc_signed : FnScope N_signed ["state"] (defScope s_signed) := ⟨rfl, rfl, rfl, by decide +kernel, rfl, by decide +kernel, by decide +kernel⟩
theorem ok_signed (Z : Top w K mg) : OkD P w K mg base T 6 "signed" 1 d_signed := by
  obtain ⟨fd, Fd⟩ := Z.f_signed
  refine ⟨⟨fd, ["state"], fn_ok Fd sc_signed rfl fun cdv A outer s0 H0 E F0 hr => ?_, Fd.bindsN (ps := ["state"]) (fun _ _ _ _ _ _ us hl => match us, hl with | [_], _ => rfl)⟩, Fd.kp, Z.m_signed⟩
  have tk : Takes (cxOf (L2.CX P w) P w K mg base N_signed "signed" (defScope s_signed) (He.ga K "signed") cdv A outer s0 H0 E) (WofE E) := takes_of rfl rfl rfl rfl
  have po : PassesOwn (model P w) (cxOf (L2.CX P w) P w K mg base N_signed "signed" (defScope s_signed) (He.ga K "signed") cdv A outer s0 H0 E).A (cxOf (L2.CX P w) P w K mg base N_signed "signed" (defScope s_signed) (He.ga K "signed") cdv A outer s0 H0 E).env (cxOf (L2.CX P w) P w K mg base N_signed "signed" (defScope s_signed) (He.ga K "signed") cdv A outer s0 H0 E).xe := passes_of (X := (cxOf (L2.CX P w) P w K mg base N_signed "signed" (defScope s_signed) (He.ga K "signed") cdv A outer s0 H0 E)) rfl
  have hu := hr.units
  exact (s_cons (s_asg (e_var (pv 0)) (g_tup rfl (gs_cons (g_name (pg_name (i := 1) sc_signed.nd rfl (Or.inl rfl))) (gs_cons (g_name (pg_name (i := 2) sc_signed.nd rfl (Or.inl rfl))) (gs_cons (g_name (pg_name (i := 3) sc_signed.nd rfl (Or.inl rfl))) (gs_cons (g_name (pg_name (i := 4) sc_signed.nd rfl (Or.inl rfl))) (gs_cons (g_name (pg_name (i := 5) sc_signed.nd rfl (Or.inl rfl))) (gs_cons (g_name (pg_name (i := 6) sc_signed.nd rfl (Or.inl rfl))) (gs_cons (g_name (pg_name (i := 7) sc_signed.nd rfl (Or.inl rfl))) gs_nil)))))))))
    (s_cons (s_if (q_cmp o_is (e_var (pv 5)) e_non (nomark _)) (s_one (s_ret (e_tup (a_cons (e_var (pv 1)) (a_cons (e_bin o_add (e_tup (a_cons (e_call (ok_turned Z) hr tk rfl (a_cons (e_ix (e_var (pv 2)) e_int) a_nil)) a_nil)) (e_sl (e_var (pv 2)) (p_some e_int) p_none)) (a_cons (e_var (pv 3)) (a_cons (e_var (pv 4)) (a_cons e_non (a_cons e_bl (a_cons (e_var (pv 7)) a_nil)))))))))) s_nil)
    (s_cons (s_if (q_val (e_met PySem.F.plainAttrs_str PySem.F.slot_str_startswith PySem.F.type_str_startswith m_starts (e_var (pv 5)) (a_cons e_str a_nil))) (s_one (s_asg (e_sl (e_var (pv 5)) (p_some e_int) p_none) (g_name (pg_name (i := 5) sc_signed.nd rfl (Or.inl rfl))))) (s_one (s_asg (e_bin o_add e_str (e_var (pv 5))) (g_name (pg_name (i := 5) sc_signed.nd rfl (Or.inl rfl))))))
    (s_one (s_ret (e_tup (a_cons (e_var (pv 1)) (a_cons (e_bin o_add (e_tup (a_cons (e_call (ok_told_by Z) hr tk rfl (a_cons (e_var (pv 5)) a_nil)) a_nil)) (e_sl (e_var (pv 2)) (p_some e_int) p_none)) (a_cons (e_var (pv 3)) (a_cons (e_var (pv 4)) (a_cons (e_var (pv 5)) (a_cons (e_var (pv 6)) (a_cons (e_var (pv 7)) a_nil)))))))))))))
theorem sc_told_of : FnScope N_told_of ["key", "manner", "pile"] (defScope s_told_of) := ⟨rfl, rfl, rfl, by decide +kernel, rfl, by decide +kernel, by decide +kernel⟩
theorem ok_told_of (Z : Top w K mg) : OkD P w K mg base T 8 "told_of" 3 d_told_of := by
  obtain ⟨fd, Fd⟩ := Z.f_told_of
  refine ⟨⟨fd, ["key", "manner", "pile"], fn_ok Fd sc_told_of rfl fun cdv A outer s0 H0 E F0 hr => ?_, Fd.bindsN (ps := ["key", "manner", "pile"]) (fun _ _ _ _ _ _ us hl => match us, hl with | [_, _, _], _ => rfl)⟩, Fd.kp, Z.m_told_of⟩
  have tk : Takes (cxOf (L2.CX P w) P w K mg base N_told_of "told_of" (defScope s_told_of) (He.ga K "told_of") cdv A outer s0 H0 E) (WofE E) := takes_of rfl rfl rfl rfl
  have po : PassesOwn (model P w) (cxOf (L2.CX P w) P w K mg base N_told_of "told_of" (defScope s_told_of) (He.ga K "told_of") cdv A outer s0 H0 E).A (cxOf (L2.CX P w) P w K mg base N_told_of "told_of" (defScope s_told_of) (He.ga K "told_of") cdv A outer s0 H0 E).env (cxOf (L2.CX P w) P w K mg base N_told_of "told_of" (defScope s_told_of) (He.ga K "told_of") cdv A outer s0 H0 E).xe := passes_of (X := (cxOf (L2.CX P w) P w K mg base N_told_of "told_of" (defScope s_told_of) (He.ga K "told_of") cdv A outer s0 H0 E)) rfl
  have hu := hr.units
  exact (s_cons (s_if (q_cmp (o_eq hu) (e_var (pv 0)) e_str (nomark _)) (s_one (s_ret (e_bin o_add (e_tup (a_cons (e_call (ok_root Z) hr tk rfl (a_cons (e_ix (e_var (pv 2)) e_int) (a_cons (e_var (pv 1)) a_nil))) a_nil)) (e_sl (e_var (pv 2)) (p_some e_int) p_none)))) s_nil)
    (s_cons (s_asg (e_tabF Z.d_DEEDS rfl (e_var (pv 0))) (g_name (pg_name (i := 3) sc_told_of.nd rfl (Or.inl rfl))))
    (s_one (s_ret (e_tup (a_cons (e_callF (fun n g (h : (if n = "plus" then some (fun ds => if ds.length = 3 then d_plus ds else .bad) else (if n = "minus" then some (fun ds => if ds.length = 3 then d_minus ds else .bad) else (if n = "times" then some (fun ds => if ds.length = 3 then d_times ds else .bad) else (if n = "over" then some (fun ds => if ds.length = 3 then d_over ds else .bad) else none)))) = some g) => (if q : n = "plus" then (by subst q; rw [if_pos rfl] at h; cases h; exact ⟨_, _, _, by omega, ok_plus Z, fun _ => rfl⟩) else (by rw [if_neg q] at h; exact (if q : n = "minus" then (by subst q; rw [if_pos rfl] at h; cases h; exact ⟨_, _, _, by omega, ok_minus Z, fun _ => rfl⟩) else (by rw [if_neg q] at h; exact (if q : n = "times" then (by subst q; rw [if_pos rfl] at h; cases h; exact ⟨_, _, _, by omega, ok_times Z, fun _ => rfl⟩) else (by rw [if_neg q] at h; exact (if q : n = "over" then (by subst q; rw [if_pos rfl] at h; cases h; exact ⟨_, _, _, by omega, ok_over Z, fun _ => rfl⟩) else (by rw [if_neg q] at h; exact (by cases h)))))))))) hr tk rfl (by first | exact Or.inl rfl | exact Or.inr (Or.inl rfl)) (a_cons (e_ix (e_var (pv 2)) e_int) (a_cons (e_ix (e_var (pv 2)) e_int) (a_cons (e_var (pv 1)) a_nil)))) (a_cons (e_ix (e_var (pv 2)) e_int) (a_cons (e_ix (e_var (pv 2)) e_int) (a_cons (e_ix (e_var (pv 2)) e_int) a_nil)))))))))
theorem sc_with_deed : FnScope N_with_deed ["state", "key"] (defScope s_with_deed) := ⟨rfl, rfl, rfl, by decide +kernel, rfl, by decide +kernel, by decide +kernel⟩
theorem ok_with_deed (Z : Top w K mg) : OkD P w K mg base T 9 "with_deed" 2 d_with_deed := by
  obtain ⟨fd, Fd⟩ := Z.f_with_deed
  refine ⟨⟨fd, ["state", "key"], fn_ok Fd sc_with_deed rfl fun cdv A outer s0 H0 E F0 hr => ?_, Fd.bindsN (ps := ["state", "key"]) (fun _ _ _ _ _ _ us hl => match us, hl with | [_, _], _ => rfl)⟩, Fd.kp, Z.m_with_deed⟩
  have tk : Takes (cxOf (L2.CX P w) P w K mg base N_with_deed "with_deed" (defScope s_with_deed) (He.ga K "with_deed") cdv A outer s0 H0 E) (WofE E) := takes_of rfl rfl rfl rfl
  have po : PassesOwn (model P w) (cxOf (L2.CX P w) P w K mg base N_with_deed "with_deed" (defScope s_with_deed) (He.ga K "with_deed") cdv A outer s0 H0 E).A (cxOf (L2.CX P w) P w K mg base N_with_deed "with_deed" (defScope s_with_deed) (He.ga K "with_deed") cdv A outer s0 H0 E).env (cxOf (L2.CX P w) P w K mg base N_with_deed "with_deed" (defScope s_with_deed) (He.ga K "with_deed") cdv A outer s0 H0 E).xe := passes_of (X := (cxOf (L2.CX P w) P w K mg base N_with_deed "with_deed" (defScope s_with_deed) (He.ga K "with_deed") cdv A outer s0 H0 E)) rfl
  have hu := hr.units
  exact (s_cons (s_asg (e_var (pv 0)) (g_tup rfl (gs_cons (g_name (pg_name (i := 2) sc_with_deed.nd rfl (Or.inl rfl))) (gs_cons (g_name (pg_name (i := 3) sc_with_deed.nd rfl (Or.inl rfl))) (gs_cons (g_name (pg_name (i := 4) sc_with_deed.nd rfl (Or.inl rfl))) (gs_cons (g_name (pg_name (i := 5) sc_with_deed.nd rfl (Or.inl rfl))) (gs_cons (g_name (pg_name (i := 6) sc_with_deed.nd rfl (Or.inl rfl))) (gs_cons (g_name (pg_name (i := 7) sc_with_deed.nd rfl (Or.inl rfl))) (gs_cons (g_name (pg_name (i := 8) sc_with_deed.nd rfl (Or.inl rfl))) gs_nil)))))))))
    (s_cons (s_try2 rfl rfl ⟨rfl, by decide, .inl Z.x_NoDeed_TooGreat.1⟩ ⟨rfl, by decide, .inl Z.x_NoDeed_TooGreat.2.1⟩ Z.x_NoDeed_TooGreat.2.2.1 Z.x_NoDeed_TooGreat.2.2.2.1 Z.x_NoDeed_TooGreat.2.2.2.2 (fun _ _ _ tk po => (s_one (s_asg (e_call (ok_told_of Z) hr tk rfl (a_cons (e_var (pv 1)) (a_cons (e_var (pv 2)) (a_cons (e_var (pv 3)) a_nil)))) (g_name (pg_name (i := 9) sc_with_deed.nd rfl (Or.inl rfl)))))) (fun _ _ _ => (s_one (s_ret (e_tup (a_cons (e_var (pv 2)) (a_cons (e_var (pv 3)) (a_cons (e_var (pv 4)) (a_cons (e_var (pv 5)) (a_cons e_non (a_cons (e_var (pv 7)) (a_cons e_str a_nil))))))))))) (fun _ _ _ => (s_one (s_ret (e_tup (a_cons (e_var (pv 2)) (a_cons (e_var (pv 3)) (a_cons (e_var (pv 4)) (a_cons (e_var (pv 5)) (a_cons e_non (a_cons (e_var (pv 7)) (a_cons e_str a_nil))))))))))))
    (s_one (s_ret (e_tup (a_cons (e_var (pv 2)) (a_cons (e_var (pv 9)) (a_cons (e_ix (e_var (pv 3)) e_int) (a_cons (e_var (pv 5)) (a_cons e_non (a_cons e_bl (a_cons (e_var (pv 8)) a_nil))))))))))))
theorem sc_with_box : FnScope N_with_box ["state", "key"] (defScope s_with_box) := ⟨rfl, rfl, rfl, by decide +kernel, rfl, by decide +kernel, by decide +kernel⟩
theorem ok_with_box (Z : Top w K mg) : OkD P w K mg base T 3 "with_box" 2 d_with_box := by
  obtain ⟨fd, Fd⟩ := Z.f_with_box
  refine ⟨⟨fd, ["state", "key"], fn_ok Fd sc_with_box rfl fun cdv A outer s0 H0 E F0 hr => ?_, Fd.bindsN (ps := ["state", "key"]) (fun _ _ _ _ _ _ us hl => match us, hl with | [_, _], _ => rfl)⟩, Fd.kp, Z.m_with_box⟩
  have tk : Takes (cxOf (L2.CX P w) P w K mg base N_with_box "with_box" (defScope s_with_box) (He.ga K "with_box") cdv A outer s0 H0 E) (WofE E) := takes_of rfl rfl rfl rfl
  have po : PassesOwn (model P w) (cxOf (L2.CX P w) P w K mg base N_with_box "with_box" (defScope s_with_box) (He.ga K "with_box") cdv A outer s0 H0 E).A (cxOf (L2.CX P w) P w K mg base N_with_box "with_box" (defScope s_with_box) (He.ga K "with_box") cdv A outer s0 H0 E).env (cxOf (L2.CX P w) P w K mg base N_with_box "with_box" (defScope s_with_box) (He.ga K "with_box") cdv A outer s0 H0 E).xe := passes_of (X := (cxOf (L2.CX P w) P w K mg base N_with_box "with_box" (defScope s_with_box) (He.ga K "with_box") cdv A outer s0 H0 E)) rfl
  have hu := hr.units
  exact (s_cons (s_asg (e_var (pv 0)) (g_tup rfl (gs_cons (g_name (pg_name (i := 2) sc_with_box.nd rfl (Or.inl rfl))) (gs_cons (g_name (pg_name (i := 3) sc_with_box.nd rfl (Or.inl rfl))) (gs_cons (g_name (pg_name (i := 4) sc_with_box.nd rfl (Or.inl rfl))) (gs_cons (g_name (pg_name (i := 5) sc_with_box.nd rfl (Or.inl rfl))) (gs_cons (g_name (pg_name (i := 6) sc_with_box.nd rfl (Or.inl rfl))) (gs_cons (g_name (pg_name (i := 7) sc_with_box.nd rfl (Or.inl rfl))) (gs_cons (g_name (pg_name (i := 8) sc_with_box.nd rfl (Or.inl rfl))) gs_nil)))))))))
    (s_cons (s_asg (e_callTy c_int rfl Z.b_int bt_int (a_cons (e_ix (e_var (pv 1)) e_int) a_nil)) (g_name (pg_name (i := 9) sc_with_box.nd rfl (Or.inl rfl))))
    (s_cons (s_if (q_val (e_met PySem.F.plainAttrs_str PySem.F.slot_str_startswith PySem.F.type_str_startswith m_starts (e_var (pv 1)) (a_cons e_str a_nil))) (s_cons (s_asg (e_bin o_add (e_bin o_add (e_sl (e_var (pv 5)) p_none (p_some (e_var (pv 9)))) (e_tup (a_cons (e_ix (e_var (pv 3)) e_int) a_nil))) (e_sl (e_var (pv 5)) (p_some (e_bin o_add (e_var (pv 9)) e_int)) p_none)) (g_name (pg_name (i := 5) sc_with_box.nd rfl (Or.inl rfl))))
    (s_one (s_ret (e_tup (a_cons (e_var (pv 2)) (a_cons (e_var (pv 3)) (a_cons (e_var (pv 4)) (a_cons (e_var (pv 5)) (a_cons e_non (a_cons e_bl (a_cons (e_var (pv 8)) a_nil))))))))))) s_nil)
    (s_one (s_ret (e_tup (a_cons (e_var (pv 2)) (a_cons (e_bin o_add (e_tup (a_cons (e_ix (e_var (pv 5)) (e_var (pv 9))) a_nil)) (e_sl (e_call (ok_if_due Z) hr tk rfl (a_cons (e_var (pv 3)) (a_cons (e_var (pv 7)) a_nil))) (p_some e_int) p_none)) (a_cons (e_var (pv 4)) (a_cons (e_var (pv 5)) (a_cons e_non (a_cons e_bl (a_cons (e_var (pv 8)) a_nil)))))))))))))
theorem sc_moved : FnScope N_moved ["state", "key"] (defScope s_moved) := ⟨rfl, rfl, rfl, by decide +kernel, rfl, by decide +kernel, by decide +kernel⟩
theorem ok_moved (Z : Top w K mg) : OkD P w K mg base T 3 "moved" 2 d_moved := by
  obtain ⟨fd, Fd⟩ := Z.f_moved
  refine ⟨⟨fd, ["state", "key"], fn_ok Fd sc_moved rfl fun cdv A outer s0 H0 E F0 hr => ?_, Fd.bindsN (ps := ["state", "key"]) (fun _ _ _ _ _ _ us hl => match us, hl with | [_, _], _ => rfl)⟩, Fd.kp, Z.m_moved⟩
  have tk : Takes (cxOf (L2.CX P w) P w K mg base N_moved "moved" (defScope s_moved) (He.ga K "moved") cdv A outer s0 H0 E) (WofE E) := takes_of rfl rfl rfl rfl
  have po : PassesOwn (model P w) (cxOf (L2.CX P w) P w K mg base N_moved "moved" (defScope s_moved) (He.ga K "moved") cdv A outer s0 H0 E).A (cxOf (L2.CX P w) P w K mg base N_moved "moved" (defScope s_moved) (He.ga K "moved") cdv A outer s0 H0 E).env (cxOf (L2.CX P w) P w K mg base N_moved "moved" (defScope s_moved) (He.ga K "moved") cdv A outer s0 H0 E).xe := passes_of (X := (cxOf (L2.CX P w) P w K mg base N_moved "moved" (defScope s_moved) (He.ga K "moved") cdv A outer s0 H0 E)) rfl
  have hu := hr.units
  exact (s_cons (s_asg (e_var (pv 0)) (g_tup rfl (gs_cons (g_name (pg_name (i := 2) sc_moved.nd rfl (Or.inl rfl))) (gs_cons (g_name (pg_name (i := 3) sc_moved.nd rfl (Or.inl rfl))) (gs_cons (g_name (pg_name (i := 4) sc_moved.nd rfl (Or.inl rfl))) (gs_cons (g_name (pg_name (i := 5) sc_moved.nd rfl (Or.inl rfl))) (gs_cons (g_name (pg_name (i := 6) sc_moved.nd rfl (Or.inl rfl))) (gs_cons (g_name (pg_name (i := 7) sc_moved.nd rfl (Or.inl rfl))) (gs_cons (g_name (pg_name (i := 8) sc_moved.nd rfl (Or.inl rfl))) gs_nil)))))))))
    (s_cons (s_if (q_cmp (o_eq hu) (e_var (pv 1)) e_str (nomark _)) (s_one (s_ret (e_tup (a_cons (e_var (pv 2)) (a_cons (e_call (ok_lifted Z) hr tk rfl (a_cons (e_var (pv 3)) a_nil)) (a_cons (e_var (pv 4)) (a_cons (e_var (pv 5)) (a_cons e_non (a_cons e_bl (a_cons (e_var (pv 8)) a_nil)))))))))) s_nil)
    (s_cons (s_if (q_cmp (o_eq hu) (e_var (pv 1)) e_str (nomark _)) (s_one (s_ret (e_tup (a_cons (e_var (pv 2)) (a_cons (e_bin o_add (e_tup (a_cons (e_ix (e_var (pv 3)) e_int) (a_cons (e_ix (e_var (pv 3)) e_int) a_nil))) (e_sl (e_var (pv 3)) (p_some e_int) p_none)) (a_cons (e_var (pv 4)) (a_cons (e_var (pv 5)) (a_cons e_non (a_cons e_bl (a_cons (e_var (pv 8)) a_nil)))))))))) s_nil)
    (s_cons (s_if (q_cmp (o_eq hu) (e_var (pv 1)) e_str (nomark _)) (s_one (s_ret (e_tup (a_cons (e_var (pv 2)) (a_cons (e_bin o_add (e_sl (e_var (pv 3)) (p_some e_int) p_none) (e_sl (e_var (pv 3)) p_none (p_some e_int))) (a_cons (e_var (pv 4)) (a_cons (e_var (pv 5)) (a_cons e_non (a_cons e_bl (a_cons (e_var (pv 8)) a_nil)))))))))) s_nil)
    (s_cons (s_if (q_cmp (o_eq hu) (e_var (pv 1)) e_str (nomark _)) (s_one (s_ret (e_tup (a_cons (e_var (pv 2)) (a_cons (e_bin o_add (e_tup (a_cons (e_var (pv 4)) a_nil)) (e_sl (e_call (ok_if_due Z) hr tk rfl (a_cons (e_var (pv 3)) (a_cons (e_var (pv 7)) a_nil))) (p_some e_int) p_none)) (a_cons (e_var (pv 4)) (a_cons (e_var (pv 5)) (a_cons e_non (a_cons e_bl (a_cons (e_var (pv 8)) a_nil)))))))))) s_nil)
    (s_one (s_ret (e_tup (a_cons (e_var (pv 2)) (a_cons (e_bin o_add (e_tup (a_cons (e_gtupI (zs := [0, 0]) Z.m_ZERO Z.c_ZERO rfl) a_nil)) (e_sl (e_var (pv 3)) (p_some e_int) p_none)) (a_cons (e_var (pv 4)) (a_cons (e_var (pv 5)) (a_cons e_non (a_cons e_bl (a_cons (e_var (pv 8)) a_nil)))))))))))))))
theorem sc_pressed : FnScope N_pressed ["state", "key"] (defScope s_pressed) := ⟨rfl, rfl, rfl, by decide +kernel, rfl, by decide +kernel, by decide +kernel⟩
theorem ok_pressed (Z : Top w K mg) : OkD P w K mg base T 10 "pressed" 2 d_pressed := by
  obtain ⟨fd, Fd⟩ := Z.f_pressed
  refine ⟨⟨fd, ["state", "key"], fn_ok Fd sc_pressed rfl fun cdv A outer s0 H0 E F0 hr => ?_, Fd.bindsN (ps := ["state", "key"]) (fun _ _ _ _ _ _ us hl => match us, hl with | [_, _], _ => rfl)⟩, Fd.kp, Z.m_pressed⟩
  have tk : Takes (cxOf (L2.CX P w) P w K mg base N_pressed "pressed" (defScope s_pressed) (He.ga K "pressed") cdv A outer s0 H0 E) (WofE E) := takes_of rfl rfl rfl rfl
  have po : PassesOwn (model P w) (cxOf (L2.CX P w) P w K mg base N_pressed "pressed" (defScope s_pressed) (He.ga K "pressed") cdv A outer s0 H0 E).A (cxOf (L2.CX P w) P w K mg base N_pressed "pressed" (defScope s_pressed) (He.ga K "pressed") cdv A outer s0 H0 E).env (cxOf (L2.CX P w) P w K mg base N_pressed "pressed" (defScope s_pressed) (He.ga K "pressed") cdv A outer s0 H0 E).xe := passes_of (X := (cxOf (L2.CX P w) P w K mg base N_pressed "pressed" (defScope s_pressed) (He.ga K "pressed") cdv A outer s0 H0 E)) rfl
  have hu := hr.units
  exact (s_cons (s_if (q_not (q_val (e_call (ok_is_key Z) hr tk rfl (a_cons (e_var (pv 1)) a_nil)))) (s_one (s_raise Z.e_NoKey rfl tk rfl)) s_nil)
    (s_cons (s_if (q_cmp o_isNot (e_ix (e_var (pv 0)) e_int) e_non (nomark _)) (s_cons (s_if (q_cmp (o_ne hu) (e_var (pv 1)) e_str (nomark _)) (s_one (s_ret (e_var (pv 0)))) s_nil)
    (s_one (s_ret (e_bin o_add (e_sl (e_var (pv 0)) p_none (p_some e_int)) (e_tup (a_cons e_non (a_cons e_bl (a_cons e_non a_nil)))))))) s_nil)
    (s_cons (s_if (q_w (w_or (q_cmp (o_eq hu) (e_var (pv 1)) e_str (nomark _)) (w_or1 (q_cmp (o_in hu) (e_var (pv 1)) (e_gstr Z.c_FIGURES rfl) (by rfl))))) (s_one (s_ret (e_call (ok_typed Z) hr tk rfl (a_cons (e_var (pv 0)) (a_cons (e_var (pv 1)) a_nil))))) s_nil)
    (s_cons (s_if (q_cmp (o_eq hu) (e_var (pv 1)) e_str (nomark _)) (s_one (s_ret (e_call (ok_signed Z) hr tk rfl (a_cons (e_var (pv 0)) a_nil)))) s_nil)
    (s_cons (s_if (q_w (w_or (q_inT Z.d_DEEDS rfl (e_var (pv 1))) (w_or1 (q_cmp (o_eq hu) (e_var (pv 1)) e_str (nomark _))))) (s_one (s_ret (e_call (ok_with_deed Z) hr tk rfl (a_cons (e_var (pv 0)) (a_cons (e_var (pv 1)) a_nil))))) s_nil)
    (s_cons (s_if (q_w (w_and (q_cmp (o_eq hu) (e_callB c_len rfl Z.b_len bt_len (a_cons (e_var (pv 1)) a_nil)) e_int (nomark _)) (w_and1 (q_cmp (o_in hu) (e_ix (e_var (pv 1)) e_int) (e_gstr Z.c_FIGURES rfl) (by rfl))))) (s_one (s_ret (e_call (ok_with_box Z) hr tk rfl (a_cons (e_var (pv 0)) (a_cons (e_var (pv 1)) a_nil))))) s_nil)
    (s_one (s_ret (e_call (ok_moved Z) hr tk rfl (a_cons (e_var (pv 0)) (a_cons (e_var (pv 1)) a_nil)))))))))))
theorem sc_behind_mark : FnScope N_behind_mark ["program", "figure"] (defScope s_behind_mark) := ⟨rfl, rfl, rfl, by decide +kernel, rfl, by decide +kernel, by decide +kernel⟩
theorem ok_behind_mark (Z : Top w K mg) : OkD P w K mg base T 1 "behind_mark" 2 d_behind_mark := by
  obtain ⟨fd, Fd⟩ := Z.f_behind_mark
  refine ⟨⟨fd, ["program", "figure"], fn_ok Fd sc_behind_mark rfl fun cdv A outer s0 H0 E F0 hr => ?_, Fd.bindsN (ps := ["program", "figure"]) (fun _ _ _ _ _ _ us hl => match us, hl with | [_, _], _ => rfl)⟩, Fd.kp, Z.m_behind_mark⟩
  have tk : Takes (cxOf (L2.CX P w) P w K mg base N_behind_mark "behind_mark" (defScope s_behind_mark) (He.ga K "behind_mark") cdv A outer s0 H0 E) (WofE E) := takes_of rfl rfl rfl rfl
  have po : PassesOwn (model P w) (cxOf (L2.CX P w) P w K mg base N_behind_mark "behind_mark" (defScope s_behind_mark) (He.ga K "behind_mark") cdv A outer s0 H0 E).A (cxOf (L2.CX P w) P w K mg base N_behind_mark "behind_mark" (defScope s_behind_mark) (He.ga K "behind_mark") cdv A outer s0 H0 E).env (cxOf (L2.CX P w) P w K mg base N_behind_mark "behind_mark" (defScope s_behind_mark) (He.ga K "behind_mark") cdv A outer s0 H0 E).xe := passes_of (X := (cxOf (L2.CX P w) P w K mg base N_behind_mark "behind_mark" (defScope s_behind_mark) (He.ga K "behind_mark") cdv A outer s0 H0 E)) rfl
  have hu := hr.units
  exact (s_cons (s_if (q_cmp o_niP (e_bin o_add e_str (e_var (pv 1))) (e_var (pv 0)) (by rfl)) (s_one (s_ret e_non)) s_nil)
    (s_one (s_ret (e_bin o_add (e_indexP (e_var (pv 0)) (a_cons (e_bin o_add e_str (e_var (pv 1))) a_nil)) e_int))))
theorem sc_is_so : FnScope N_is_so ["word", "pile"] (defScope s_is_so) := ⟨rfl, rfl, rfl, by decide +kernel, rfl, by decide +kernel, by decide +kernel⟩
theorem ok_is_so (Z : Top w K mg) : OkD P w K mg base T 4 "is_so" 2 d_is_so := by
  obtain ⟨fd, Fd⟩ := Z.f_is_so
  refine ⟨⟨fd, ["word", "pile"], fn_ok Fd sc_is_so rfl fun cdv A outer s0 H0 E F0 hr => ?_, Fd.bindsN (ps := ["word", "pile"]) (fun _ _ _ _ _ _ us hl => match us, hl with | [_, _], _ => rfl)⟩, Fd.kp, Z.m_is_so⟩
  have tk : Takes (cxOf (L2.CX P w) P w K mg base N_is_so "is_so" (defScope s_is_so) (He.ga K "is_so") cdv A outer s0 H0 E) (WofE E) := takes_of rfl rfl rfl rfl
  have po : PassesOwn (model P w) (cxOf (L2.CX P w) P w K mg base N_is_so "is_so" (defScope s_is_so) (He.ga K "is_so") cdv A outer s0 H0 E).A (cxOf (L2.CX P w) P w K mg base N_is_so "is_so" (defScope s_is_so) (He.ga K "is_so") cdv A outer s0 H0 E).env (cxOf (L2.CX P w) P w K mg base N_is_so "is_so" (defScope s_is_so) (He.ga K "is_so") cdv A outer s0 H0 E).xe := passes_of (X := (cxOf (L2.CX P w) P w K mg base N_is_so "is_so" (defScope s_is_so) (He.ga K "is_so") cdv A outer s0 H0 E)) rfl
  have hu := hr.units
  exact (s_cons (s_if (q_cmp (o_eq hu) (e_var (pv 0)) e_str (nomark _)) (s_one (s_ret (e_call (ok_less Z) hr tk rfl (a_cons (e_ix (e_var (pv 1)) e_int) (a_cons (e_ix (e_var (pv 1)) e_int) a_nil))))) s_nil)
    (s_cons (s_if (q_cmp (o_eq hu) (e_var (pv 0)) e_str (nomark _)) (s_one (s_ret (e_cmp (o_eq hu) (e_ix (e_var (pv 1)) e_int) (e_ix (e_var (pv 1)) e_int) (nomark _)))) s_nil)
    (s_one (s_ret (e_cmp (o_eq hu) (e_ix (e_var (pv 1)) e_int) (e_gtupI (zs := [0, 0]) Z.m_ZERO Z.c_ZERO rfl) (nomark _))))))
theorem sc_led : FnScope N_led ["program", "state", "place"] (defScope s_led) := ⟨rfl, rfl, rfl, by decide +kernel, rfl, by decide +kernel, by decide +kernel⟩
theorem ok_led (Z : Top w K mg) : OkD P w K mg base T 2 "led" 3 d_led := by
  obtain ⟨fd, Fd⟩ := Z.f_led
  refine ⟨⟨fd, ["program", "state", "place"], fn_ok Fd sc_led rfl fun cdv A outer s0 H0 E F0 hr => ?_, Fd.bindsN (ps := ["program", "state", "place"]) (fun _ _ _ _ _ _ us hl => match us, hl with | [_, _, _], _ => rfl)⟩, Fd.kp, Z.m_led⟩
  have tk : Takes (cxOf (L2.CX P w) P w K mg base N_led "led" (defScope s_led) (He.ga K "led") cdv A outer s0 H0 E) (WofE E) := takes_of rfl rfl rfl rfl
  have po : PassesOwn (model P w) (cxOf (L2.CX P w) P w K mg base N_led "led" (defScope s_led) (He.ga K "led") cdv A outer s0 H0 E).A (cxOf (L2.CX P w) P w K mg base N_led "led" (defScope s_led) (He.ga K "led") cdv A outer s0 H0 E).env (cxOf (L2.CX P w) P w K mg base N_led "led" (defScope s_led) (He.ga K "led") cdv A outer s0 H0 E).xe := passes_of (X := (cxOf (L2.CX P w) P w K mg base N_led "led" (defScope s_led) (He.ga K "led") cdv A outer s0 H0 E)) rfl
  have hu := hr.units
  exact (s_cons (s_asg (e_var (pv 2)) (g_tup rfl (gs_cons (g_name (pg_name (i := 3) sc_led.nd rfl (Or.inl rfl))) (gs_cons (g_name (pg_name (i := 4) sc_led.nd rfl (Or.inl rfl))) gs_nil))))
    (s_cons (s_asg (e_ixP (e_var (pv 0)) (e_var (pv 3))) (g_name (pg_name (i := 5) sc_led.nd rfl (Or.inl rfl))))
    (s_cons (s_if (q_cmp (o_eq hu) (e_var (pv 5)) e_str (nomark _)) (s_cons (s_if (q_cmp (o_eq hu) (e_callB c_len rfl Z.b_len bt_len (a_cons (e_var (pv 4)) a_nil)) e_int (nomark _)) (s_one (s_ret e_non)) s_nil)
    (s_one (s_ret (e_tup (a_cons (e_ix (e_var (pv 4)) (e_una u_neg e_int)) (a_cons (e_sl (e_var (pv 4)) p_none (p_some (e_una u_neg e_int))) a_nil)))))) s_nil)
    (s_cons (s_asg (e_call (ok_behind_mark Z) hr tk rfl (a_cons (e_var (pv 0)) (a_cons (e_ix (e_var (pv 5)) (e_una u_neg e_int)) a_nil))) (g_name (pg_name (i := 6) sc_led.nd rfl (Or.inl rfl))))
    (s_cons (s_if (q_cmp o_is (e_var (pv 6)) e_non (nomark _)) (s_one (s_ret e_non)) s_nil)
    (s_cons (s_if (q_val (e_met PySem.F.plainAttrs_str PySem.F.slot_str_startswith PySem.F.type_str_startswith m_starts (e_var (pv 5)) (a_cons e_str a_nil))) (s_one (s_ret (e_tup (a_cons (e_var (pv 6)) (a_cons (e_var (pv 4)) a_nil))))) s_nil)
    (s_cons (s_if (q_cmp (o_eq hu) (e_callB c_len rfl Z.b_len bt_len (a_cons (e_var (pv 4)) a_nil)) (e_gint Z.c_MOST_CALLS rfl) (nomark _)) (s_one (s_ret e_non)) s_nil)
    (s_one (s_ret (e_tup (a_cons (e_var (pv 6)) (a_cons (e_bin o_add (e_var (pv 4)) (e_tup (a_cons (e_bin o_add (e_var (pv 3)) e_int) a_nil))) a_nil))))))))))))
theorem sc_step : FnScope N_step ["program", "state", "place"] (defScope s_step) := ⟨rfl, rfl, rfl, by decide +kernel, rfl, by decide +kernel, by decide +kernel⟩
theorem ok_step (Z : Top w K mg) : OkD P w K mg base T 11 "step" 3 d_step := by
  obtain ⟨fd, Fd⟩ := Z.f_step
  refine ⟨⟨fd, ["program", "state", "place"], fn_ok Fd sc_step rfl fun cdv A outer s0 H0 E F0 hr => ?_, Fd.bindsN (ps := ["program", "state", "place"]) (fun _ _ _ _ _ _ us hl => match us, hl with | [_, _, _], _ => rfl)⟩, Fd.kp, Z.m_step⟩
  have tk : Takes (cxOf (L2.CX P w) P w K mg base N_step "step" (defScope s_step) (He.ga K "step") cdv A outer s0 H0 E) (WofE E) := takes_of rfl rfl rfl rfl
  have po : PassesOwn (model P w) (cxOf (L2.CX P w) P w K mg base N_step "step" (defScope s_step) (He.ga K "step") cdv A outer s0 H0 E).A (cxOf (L2.CX P w) P w K mg base N_step "step" (defScope s_step) (He.ga K "step") cdv A outer s0 H0 E).env (cxOf (L2.CX P w) P w K mg base N_step "step" (defScope s_step) (He.ga K "step") cdv A outer s0 H0 E).xe := passes_of (X := (cxOf (L2.CX P w) P w K mg base N_step "step" (defScope s_step) (He.ga K "step") cdv A outer s0 H0 E)) rfl
  have hu := hr.units
  exact (s_cons (s_asg (e_var (pv 2)) (g_tup rfl (gs_cons (g_name (pg_name (i := 3) sc_step.nd rfl (Or.inl rfl))) (gs_cons (g_name (pg_name (i := 4) sc_step.nd rfl (Or.inl rfl))) gs_nil))))
    (s_cons (s_if (q_w (w_or (q_not (q_chn o_le o_lt e_int (e_var (pv 3)) (e_callB c_lenP rfl Z.b_len bt_len (a_cons (e_var (pv 0)) a_nil)))) (w_or1 (q_cmp (o_eq hu) (e_ixP (e_var (pv 0)) (e_var (pv 3))) e_str (nomark _))))) (s_one (s_ret (e_tup (a_cons (e_var (pv 1)) (a_cons (e_var (pv 2)) (a_cons e_str a_nil)))))) s_nil)
    (s_cons (s_asg (e_ixP (e_var (pv 0)) (e_var (pv 3))) (g_name (pg_name (i := 5) sc_step.nd rfl (Or.inl rfl))))
    (s_cons (s_if (q_val (e_call (ok_is_key Z) hr tk rfl (a_cons (e_var (pv 5)) a_nil))) (s_cons (s_asg (e_call (ok_pressed Z) hr tk rfl (a_cons (e_var (pv 1)) (a_cons (e_var (pv 5)) a_nil))) (g_name (pg_name (i := 6) sc_step.nd rfl (Or.inl rfl))))
    (s_cons (s_if (q_cmp o_isNot (e_ix (e_var (pv 6)) e_int) e_non (nomark _)) (s_one (s_ret (e_tup (a_cons (e_var (pv 6)) (a_cons (e_var (pv 2)) (a_cons e_str a_nil)))))) s_nil)
    (s_one (s_ret (e_tup (a_cons (e_var (pv 6)) (a_cons (e_tup (a_cons (e_bin o_add (e_var (pv 3)) e_int) (a_cons (e_var (pv 4)) a_nil))) (a_cons e_str a_nil)))))))) s_nil)
    (s_cons (s_if (q_cmp (o_in hu) (e_var (pv 5)) (e_tup (a_cons e_str (a_cons e_str (a_cons e_str a_nil)))) (by rfl)) (s_cons (s_asg (e_bin o_add (e_bin o_add (e_sl (e_var (pv 1)) p_none (p_some e_int)) (e_tup (a_cons e_non (a_cons e_bl a_nil)))) (e_sl (e_var (pv 1)) (p_some e_int) p_none)) (g_name (pg_name (i := 6) sc_step.nd rfl (Or.inl rfl))))
    (s_one (s_ret (e_tup (a_cons (e_var (pv 6)) (a_cons (e_tup (a_cons (e_bin o_sub (e_bin o_add (e_var (pv 3)) e_int) (e_callTy c_int rfl Z.b_int bt_int (a_cons (e_call (ok_is_so Z) hr tk rfl (a_cons (e_var (pv 5)) (a_cons (e_ix (e_var (pv 1)) e_int) a_nil))) a_nil))) (a_cons (e_var (pv 4)) a_nil))) (a_cons e_str a_nil))))))) s_nil)
    (s_cons (s_if (q_val (e_met PySem.F.plainAttrs_str PySem.F.slot_str_startswith PySem.F.type_str_startswith m_starts (e_var (pv 5)) (a_cons e_str a_nil))) (s_one (s_ret (e_tup (a_cons (e_var (pv 1)) (a_cons (e_tup (a_cons (e_bin o_add (e_var (pv 3)) e_int) (a_cons (e_var (pv 4)) a_nil))) (a_cons e_str a_nil)))))) s_nil)
    (s_cons (s_asg (e_call (ok_led Z) hr tk rfl (a_cons (e_var (pv 0)) (a_cons (e_var (pv 1)) (a_cons (e_var (pv 2)) a_nil)))) (g_name (pg_name (i := 7) sc_step.nd rfl (Or.inl rfl))))
    (s_cons (s_if (q_cmp o_is (e_var (pv 7)) e_non (nomark _)) (s_one (s_ret (e_tup (a_cons (e_var (pv 1)) (a_cons (e_var (pv 2)) (a_cons e_str a_nil)))))) s_nil)
    (s_one (s_ret (e_tup (a_cons (e_var (pv 1)) (a_cons (e_var (pv 7)) (a_cons e_str a_nil))))))))))))))
theorem sc_ring : FnScope N_ring ["program", "state", "most"] (defScope s_ring) := ⟨rfl, rfl, rfl, by decide +kernel, rfl, by decide +kernel, by decide +kernel⟩
theorem ok_ring (Z : Top w K mg) : OkD P w K mg base T 12 "ring" 3 (d_ring P w) := by
  obtain ⟨fd, Fd⟩ := Z.f_ring
  refine ⟨⟨fd, ["program", "state", "most"], fn_ok Fd sc_ring rfl fun cdv A outer s0 H0 E F0 hr => ?_, Fd.bindsN (ps := ["program", "state", "most"]) (fun _ _ _ _ _ _ us hl => match us, hl with | [_, _, _], _ => rfl)⟩, Fd.kp, Z.m_ring⟩
  have tk : Takes (cxOf (L2.CX P w) P w K mg base N_ring "ring" (defScope s_ring) (He.ga K "ring") cdv A outer s0 H0 E) (WofE E) := takes_of rfl rfl rfl rfl
  have po : PassesOwn (model P w) (cxOf (L2.CX P w) P w K mg base N_ring "ring" (defScope s_ring) (He.ga K "ring") cdv A outer s0 H0 E).A (cxOf (L2.CX P w) P w K mg base N_ring "ring" (defScope s_ring) (He.ga K "ring") cdv A outer s0 H0 E).env (cxOf (L2.CX P w) P w K mg base N_ring "ring" (defScope s_ring) (He.ga K "ring") cdv A outer s0 H0 E).xe := passes_of (X := (cxOf (L2.CX P w) P w K mg base N_ring "ring" (defScope s_ring) (He.ga K "ring") cdv A outer s0 H0 E)) rfl
  have hu := hr.units
  exact (s_cons (s_asg (e_tup (a_cons e_int (a_cons (e_tup a_nil) a_nil))) (g_name (pg_name (i := 3) sc_ring.nd rfl (Or.inl rfl))))
    (s_cons (s_ownN hu (e_tup (a_cons (e_var (pv 1)) (a_cons (e_var (pv 3)) a_nil))) e_int (pg_name (i := 4) sc_ring.nd rfl (Or.inl rfl)))
    (s_cons (s_for po rfl (i_rng2 rfl Z.b_range (a_cons e_int (a_cons (e_bin o_add (e_var (pv 2)) e_int) a_nil))) (g_name (pg_name (i := 5) sc_ring.nd rfl (Or.inl rfl))) (s_cons (s_asg (e_call (ok_step Z) hr tk rfl (a_cons (e_var (pv 0)) (a_cons (e_var (pv 1)) (a_cons (e_var (pv 3)) a_nil)))) (g_tup rfl (gs_cons (g_name (pg_name (i := 1) sc_ring.nd rfl (Or.inl rfl))) (gs_cons (g_name (pg_name (i := 3) sc_ring.nd rfl (Or.inl rfl))) (gs_cons (g_name (pg_name (i := 6) sc_ring.nd rfl (Or.inl rfl))) gs_nil)))))
    (s_cons (s_if (q_cmp (o_ne hu) (e_var (pv 6)) e_str (nomark _)) (s_one (s_ret e_non)) s_nil)
    (s_cons (s_if (q_inN hu (pv 4) (e_tup (a_cons (e_var (pv 1)) (a_cons (e_var (pv 3)) a_nil)))) (s_one (s_ret (e_tup (a_cons (e_ixN hu (pv 4) (e_tup (a_cons (e_var (pv 1)) (a_cons (e_var (pv 3)) a_nil)))) (a_cons (e_bin o_sub (e_var (pv 5)) (e_ixN hu (pv 4) (e_tup (a_cons (e_var (pv 1)) (a_cons (e_var (pv 3)) a_nil))))) a_nil))))) s_nil)
    (s_one (s_putN hu (pv 4) (e_tup (a_cons (e_var (pv 1)) (a_cons (e_var (pv 3)) a_nil))) (e_var (pv 5))))))))
    (s_one (s_ret e_non)))))
theorem sc__law_cell_at : FnScope N__law_cell_at ["script", "k"] (defScope s__law_cell_at) := ⟨rfl, rfl, rfl, by decide +kernel, rfl, by decide +kernel, by decide +kernel⟩
theorem ok__law_cell_at (Z : Top w K mg) : OkD P w K mg base T 1 "_law_cell_at" 2 d__law_cell_at := by
  obtain ⟨fd, Fd⟩ := Z.f__law_cell_at
  refine ⟨⟨fd, ["script", "k"], fn_ok Fd sc__law_cell_at rfl fun cdv A outer s0 H0 E F0 hr => ?_, Fd.bindsN (ps := ["script", "k"]) (fun _ _ _ _ _ _ us hl => match us, hl with | [_, _], _ => rfl)⟩, Fd.kp, Z.m__law_cell_at⟩
  have tk : Takes (cxOf (L2.CX P w) P w K mg base N__law_cell_at "_law_cell_at" (defScope s__law_cell_at) (He.ga K "_law_cell_at") cdv A outer s0 H0 E) (WofE E) := takes_of rfl rfl rfl rfl
  have po : PassesOwn (model P w) (cxOf (L2.CX P w) P w K mg base N__law_cell_at "_law_cell_at" (defScope s__law_cell_at) (He.ga K "_law_cell_at") cdv A outer s0 H0 E).A (cxOf (L2.CX P w) P w K mg base N__law_cell_at "_law_cell_at" (defScope s__law_cell_at) (He.ga K "_law_cell_at") cdv A outer s0 H0 E).env (cxOf (L2.CX P w) P w K mg base N__law_cell_at "_law_cell_at" (defScope s__law_cell_at) (He.ga K "_law_cell_at") cdv A outer s0 H0 E).xe := passes_of (X := (cxOf (L2.CX P w) P w K mg base N__law_cell_at "_law_cell_at" (defScope s__law_cell_at) (He.ga K "_law_cell_at") cdv A outer s0 H0 E)) rfl
  have hu := hr.units
  exact (s_cons (s_if (q_cmp o_lt (e_var (pv 1)) (e_callB c_len rfl Z.b_len bt_len (a_cons (e_var (pv 0)) a_nil)) (nomark _)) (s_one (s_ret (e_ix (e_var (pv 0)) (e_var (pv 1))))) s_nil)
    (s_one (s_ret e_int)))
theorem sc__law_mixed : FnScope N__law_mixed ["script", "k"] (defScope s__law_mixed) := ⟨rfl, rfl, rfl, by decide +kernel, rfl, by decide +kernel, by decide +kernel⟩
theorem ok__law_mixed (Z : Top w K mg) : OkD P w K mg base T 2 "_law_mixed" 2 d__law_mixed := by
  obtain ⟨fd, Fd⟩ := Z.f__law_mixed
  refine ⟨⟨fd, ["script", "k"], fn_ok Fd sc__law_mixed rfl fun cdv A outer s0 H0 E F0 hr => ?_, Fd.bindsN (ps := ["script", "k"]) (fun _ _ _ _ _ _ us hl => match us, hl with | [_, _], _ => rfl)⟩, Fd.kp, Z.m__law_mixed⟩
  have tk : Takes (cxOf (L2.CX P w) P w K mg base N__law_mixed "_law_mixed" (defScope s__law_mixed) (He.ga K "_law_mixed") cdv A outer s0 H0 E) (WofE E) := takes_of rfl rfl rfl rfl
  have po : PassesOwn (model P w) (cxOf (L2.CX P w) P w K mg base N__law_mixed "_law_mixed" (defScope s__law_mixed) (He.ga K "_law_mixed") cdv A outer s0 H0 E).A (cxOf (L2.CX P w) P w K mg base N__law_mixed "_law_mixed" (defScope s__law_mixed) (He.ga K "_law_mixed") cdv A outer s0 H0 E).env (cxOf (L2.CX P w) P w K mg base N__law_mixed "_law_mixed" (defScope s__law_mixed) (He.ga K "_law_mixed") cdv A outer s0 H0 E).xe := passes_of (X := (cxOf (L2.CX P w) P w K mg base N__law_mixed "_law_mixed" (defScope s__law_mixed) (He.ga K "_law_mixed") cdv A outer s0 H0 E)) rfl
  have hu := hr.units
  exact (s_cons (s_asg (e_bin o_mod (e_bin o_mul (e_bin o_add (e_bin o_add (e_call (ok__law_cell_at Z) hr tk rfl (a_cons (e_var (pv 0)) (a_cons (e_var (pv 1)) a_nil))) (e_bin o_mul e_int (e_var (pv 1)))) e_int) e_int) e_int) (g_name (pg_name (i := 2) sc__law_mixed.nd rfl (Or.inl rfl))))
    (s_one (s_ret (e_bin o_mod (e_bin o_add (e_bin o_add (e_bin o_mul (e_var (pv 2)) (e_var (pv 2))) (e_bin o_mul e_int (e_var (pv 2)))) (e_var (pv 1))) e_int))))
theorem sc__law_drawn : FnScope N__law_drawn ["number", "k"] (defScope s__law_drawn) := ⟨rfl, rfl, rfl, by decide +kernel, rfl, by decide +kernel, by decide +kernel⟩
theorem ok__law_drawn (Z : Top w K mg) : OkD P w K mg base T 1 "_law_drawn" 2 d__law_drawn := by
  obtain ⟨fd, Fd⟩ := Z.f__law_drawn
  refine ⟨⟨fd, ["number", "k"], fn_ok Fd sc__law_drawn rfl fun cdv A outer s0 H0 E F0 hr => ?_, Fd.bindsN (ps := ["number", "k"]) (fun _ _ _ _ _ _ us hl => match us, hl with | [_, _], _ => rfl)⟩, Fd.kp, Z.m__law_drawn⟩
  have tk : Takes (cxOf (L2.CX P w) P w K mg base N__law_drawn "_law_drawn" (defScope s__law_drawn) (He.ga K "_law_drawn") cdv A outer s0 H0 E) (WofE E) := takes_of rfl rfl rfl rfl
  have po : PassesOwn (model P w) (cxOf (L2.CX P w) P w K mg base N__law_drawn "_law_drawn" (defScope s__law_drawn) (He.ga K "_law_drawn") cdv A outer s0 H0 E).A (cxOf (L2.CX P w) P w K mg base N__law_drawn "_law_drawn" (defScope s__law_drawn) (He.ga K "_law_drawn") cdv A outer s0 H0 E).env (cxOf (L2.CX P w) P w K mg base N__law_drawn "_law_drawn" (defScope s__law_drawn) (He.ga K "_law_drawn") cdv A outer s0 H0 E).xe := passes_of (X := (cxOf (L2.CX P w) P w K mg base N__law_drawn "_law_drawn" (defScope s__law_drawn) (He.ga K "_law_drawn") cdv A outer s0 H0 E)) rfl
  have hu := hr.units
  exact (s_cons (s_asg (e_bin o_mod (e_bin o_mul (e_bin o_add (e_bin o_add (e_var (pv 0)) (e_bin o_mul e_int (e_var (pv 1)))) e_int) e_int) e_int) (g_name (pg_name (i := 2) sc__law_drawn.nd rfl (Or.inl rfl))))
    (s_one (s_ret (e_bin o_mod (e_bin o_add (e_bin o_add (e_bin o_mul (e_var (pv 2)) (e_var (pv 2))) (e_bin o_mul e_int (e_var (pv 2)))) (e_var (pv 1))) e_int))))
theorem sc__law_manner : FnScope N__law_manner ["number"] (defScope s__law_manner) := ⟨rfl, rfl, rfl, by decide +kernel, rfl, by decide +kernel, by decide +kernel⟩
theorem ok__law_manner (Z : Top w K mg) : OkD P w K mg base T 1 "_law_manner" 1 d__law_manner := by
  obtain ⟨fd, Fd⟩ := Z.f__law_manner
  refine ⟨⟨fd, ["number"], fn_ok Fd sc__law_manner rfl fun cdv A outer s0 H0 E F0 hr => ?_, Fd.bindsN (ps := ["number"]) (fun _ _ _ _ _ _ us hl => match us, hl with | [_], _ => rfl)⟩, Fd.kp, Z.m__law_manner⟩
  have tk : Takes (cxOf (L2.CX P w) P w K mg base N__law_manner "_law_manner" (defScope s__law_manner) (He.ga K "_law_manner") cdv A outer s0 H0 E) (WofE E) := takes_of rfl rfl rfl rfl
  have po : PassesOwn (model P w) (cxOf (L2.CX P w) P w K mg base N__law_manner "_law_manner" (defScope s__law_manner) (He.ga K "_law_manner") cdv A outer s0 H0 E).A (cxOf (L2.CX P w) P w K mg base N__law_manner "_law_manner" (defScope s__law_manner) (He.ga K "_law_manner") cdv A outer s0 H0 E).env (cxOf (L2.CX P w) P w K mg base N__law_manner "_law_manner" (defScope s__law_manner) (He.ga K "_law_manner") cdv A outer s0 H0 E).xe := passes_of (X := (cxOf (L2.CX P w) P w K mg base N__law_manner "_law_manner" (defScope s__law_manner) (He.ga K "_law_manner") cdv A outer s0 H0 E)) rfl
  have hu := hr.units
  exact (s_one (s_ret (e_ix (e_tup (a_cons e_str (a_cons e_str (a_cons e_str (a_cons e_str (a_cons e_str a_nil)))))) (e_bin o_mod (e_var (pv 0)) e_int))))
theorem sc__law_line : FnScope N__law_line ["number"] (defScope s__law_line) := ⟨rfl, rfl, rfl, by decide +kernel, rfl, by decide +kernel, by decide +kernel⟩
theorem ok__law_line (Z : Top w K mg) : OkD P w K mg base T 1 "_law_line" 1 d__law_line := by
  obtain ⟨fd, Fd⟩ := Z.f__law_line
  refine ⟨⟨fd, ["number"], fn_ok Fd sc__law_line rfl fun cdv A outer s0 H0 E F0 hr => ?_, Fd.bindsN (ps := ["number"]) (fun _ _ _ _ _ _ us hl => match us, hl with | [_], _ => rfl)⟩, Fd.kp, Z.m__law_line⟩
  have tk : Takes (cxOf (L2.CX P w) P w K mg base N__law_line "_law_line" (defScope s__law_line) (He.ga K "_law_line") cdv A outer s0 H0 E) (WofE E) := takes_of rfl rfl rfl rfl
  have po : PassesOwn (model P w) (cxOf (L2.CX P w) P w K mg base N__law_line "_law_line" (defScope s__law_line) (He.ga K "_law_line") cdv A outer s0 H0 E).A (cxOf (L2.CX P w) P w K mg base N__law_line "_law_line" (defScope s__law_line) (He.ga K "_law_line") cdv A outer s0 H0 E).env (cxOf (L2.CX P w) P w K mg base N__law_line "_law_line" (defScope s__law_line) (He.ga K "_law_line") cdv A outer s0 H0 E).xe := passes_of (X := (cxOf (L2.CX P w) P w K mg base N__law_line "_law_line" (defScope s__law_line) (He.ga K "_law_line") cdv A outer s0 H0 E)) rfl
  have hu := hr.units
  exact (s_cons (s_asg (e_lst (a_cons e_str (a_cons e_str (a_cons e_str (a_cons e_str (a_cons e_str (a_cons e_str (a_cons e_str (a_cons e_str (a_cons e_str (a_cons e_str (a_cons e_str (a_cons e_str (a_cons e_str a_nil)))))))))))))) (g_name (pg_name (i := 1) sc__law_line.nd rfl (Or.inl rfl))))
    (s_cons (s_asg (e_bin o_add (e_var (pv 1)) (e_lst (a_cons e_str (a_cons e_str (a_cons e_str (a_cons e_str (a_cons e_str (a_cons e_str (a_cons e_str (a_cons e_str (a_cons e_str (a_cons e_str (a_cons e_str (a_cons e_str a_nil)))))))))))))) (g_name (pg_name (i := 1) sc__law_line.nd rfl (Or.inl rfl))))
    (s_one (s_ret (e_ix (e_bin o_add (e_var (pv 1)) (e_lst (a_cons e_str (a_cons e_str (a_cons e_str (a_cons e_str (a_cons e_str (a_cons e_str (a_cons e_str a_nil))))))))) (e_bin o_mod (e_var (pv 0)) e_int))))))
theorem sc__law_program : FnScope N__law_program_v2 ["number", "most"] (defScope s__law_program) := ⟨rfl, rfl, rfl, by decide +kernel, rfl, by decide +kernel, by decide +kernel⟩
theorem ok__law_program (Z : Top w K mg) : OkD P w K mg base T 2 "_law_program" 2 d__law_program_v2 := by
  obtain ⟨fd, Fd⟩ := Z.f__law_program
  refine ⟨⟨fd, ["number", "most"], fn_ok Fd sc__law_program rfl fun cdv A outer s0 H0 E F0 hr => ?_, Fd.bindsN (ps := ["number", "most"]) (fun _ _ _ _ _ _ us hl => match us, hl with | [_, _], _ => rfl)⟩, Fd.kp, Z.m__law_program⟩
  have tk : Takes (cxOf (L2.CX P w) P w K mg base N__law_program_v2 "_law_program" (defScope s__law_program) (He.ga K "_law_program") cdv A outer s0 H0 E) (WofE E) := takes_of rfl rfl rfl rfl
  have po : PassesOwn (model P w) (cxOf (L2.CX P w) P w K mg base N__law_program_v2 "_law_program" (defScope s__law_program) (He.ga K "_law_program") cdv A outer s0 H0 E).A (cxOf (L2.CX P w) P w K mg base N__law_program_v2 "_law_program" (defScope s__law_program) (He.ga K "_law_program") cdv A outer s0 H0 E).env (cxOf (L2.CX P w) P w K mg base N__law_program_v2 "_law_program" (defScope s__law_program) (He.ga K "_law_program") cdv A outer s0 H0 E).xe := passes_of (X := (cxOf (L2.CX P w) P w K mg base N__law_program_v2 "_law_program" (defScope s__law_program) (He.ga K "_law_program") cdv A outer s0 H0 E)) rfl
  have hu := hr.units
  exact (s_one (s_ret (e_callTy c_tupP rfl Z.b_tuple bt_tuple (a_cons (e_lc (x := "k") (i := 2) rfl sc__law_program.nd (i_rng1 rfl Z.b_range (a_cons (e_bin o_mod (e_var (pv 0)) (e_bin o_add (e_var (pv 1)) e_int)) a_nil)) (blkOk_by (N := N__law_program_v2) (sc := defScope s__law_program) (by decide +kernel)) (fun _ _ _ _ _ => pg_name (i := 2) sc__law_program.nd rfl (Or.inl rfl)) (fun _ _ _ _ _ => ts_nil) (fun _ _ _ _ _ => (e_call (ok__law_line Z) hr L2.takes0 rfl (a_cons (e_bin o_div (e_call (ok__law_drawn Z) hr L2.takes0 rfl (a_cons (e_var (pv 0)) (a_cons (e_var (pv 2)) a_nil))) e_int) a_nil)))) a_nil))))
def N_law : List Str := ["script", "number", "state", "program", "most", "seen", "due", "on", "count", "now", "place", "how"]
noncomputable def b1_law (P : Program) (w : World) : Rho → SR :=
  (sif (andQ (tst (var 7)) (tst (bop isN (var 6) (con .non)))) (sseq (sasg (callD 3 d_step (acons (var 3) (acons (bop ixD (ixO 5 (una negD (con (.int 1)))) (con (.int 0))) (acons (bop ixD (ixO 5 (una negD (con (.int 1)))) (con (.int 1))) anil)))) (gt 3 (gsc (gn 9) (gsc (gn 10) (gsc (gn 11) gsn)))))
    (sseq (sasg (bop eqD (var 11) (con (.str "on"))) (gn 7))
    (sseq (sif (borQ 5 (andQ (tst (var 7)) (tst (bop inD (mkT (acons (var 9) (acons (var 10) anil))) (var 5))))) (sasg (mkT (acons (bor 5 (metL ixnD (var 5) (acons (mkT (acons (var 9) (acons (var 10) anil))) anil))) (acons (bop subD (var 8) (bor 5 (metL ixnD (var 5) (acons (mkT (acons (var 9) (acons (var 10) anil))) anil)))) anil))) (gn 6)) sskip)
    (sapp 5 (mkT (acons (var 9) (acons (var 10) anil))))))) sskip)
noncomputable def t9_law (P : Program) (w : World) : Rho → SR :=
  (sfrz 5 (sret (bop eqD (callD 3 (d_ring P w) (acons (var 3) (acons (var 2) (acons (var 4) anil)))) (var 6))))
noncomputable def t8_law (P : Program) (w : World) : Rho → SR :=
  sseq (sfor (rng2 (acons (con (.int 1)) (acons (bop addD (var 4) (con (.int 1))) anil))) (gn 8) (b1_law P w)) (t9_law P w)
noncomputable def t7_law (P : Program) (w : World) : Rho → SR :=
  sseq (sasg (con (.bl true)) (gn 7)) (t8_law P w)
noncomputable def t6_law (P : Program) (w : World) : Rho → SR :=
  sseq (sasg (con .non) (gn 6)) (t7_law P w)
noncomputable def t5_law (P : Program) (w : World) : Rho → SR :=
  sseq (sown (mkL (acons (mkT (acons (var 2) (acons (mkT (acons (con (.int 0)) (acons (mkT anil) anil))) anil))) anil)) 5) (t6_law P w)
noncomputable def t4_law (P : Program) (w : World) : Rho → SR :=
  sseq (sasg (bop modD (bop divD (var 1) (con (.int 16))) (con (.int 61))) (gn 4)) (t5_law P w)
noncomputable def t3_law (P : Program) (w : World) : Rho → SR :=
  sseq (sif (tst (bop eqD (bop modD (bop divD (var 1) (con (.int 8))) (con (.int 2))) (con (.int 1)))) (sasg (bop addP (bop addP (mkP (acons (con (.str "mark1")) anil)) (var 3)) (mkP (acons (con (.str "go1")) anil))) (gn 3)) sskip) (t4_law P w)
noncomputable def t2_law (P : Program) (w : World) : Rho → SR :=
  sseq (sasg (callD 2 d__law_program_v2 (acons (callD 2 d__law_mixed (acons (var 0) (acons (con (.int 1)) anil))) (acons (con (.int 14)) anil))) (gn 3)) (t3_law P w)
noncomputable def t1_law (P : Program) (w : World) : Rho → SR :=
  sseq (sasg (callD 1 d_begin (acons (callD 1 d__law_manner (acons (var 1) anil)) anil)) (gn 2)) (t2_law P w)
noncomputable def g_law (P : Program) (w : World) : Rho → SR :=
  sseq (sasg (callD 2 d__law_mixed (acons (var 0) (acons (con (.int 0)) anil))) (gn 1)) (t1_law P w)
noncomputable def d_law (P : Program) (w : World) (ds : List D) : Res D := runB 12 (g_law P w) ds
theorem v_law {a0 : D} {P : Program} {w : World} : d_law P w [a0] = finR (g_law P w [.z a0, .u, .u, .u, .u, .u, .u, .u, .u, .u, .u, .u]) := runB_eq rfl
theorem sc_law : FnScope N_law ["script"] (defScope s_law) := ⟨rfl, rfl, rfl, by decide +kernel, rfl, by decide +kernel, by decide +kernel⟩
theorem law_fn (Z : Top w K mg) {fd : FuncData} (Fd : FunD K "law" "law" (defArgs s_law) (defBody s_law) (defScope s_law) [] [] (He.ga K "law") fd) : FnOk P w K mg base (L2.CX P w) 13 (He.ga K "law") fd ["script"] (spD K T 1 (d_law P w)) := by
  refine fn_ok Fd sc_law rfl fun cdv A outer s0 H0 E F0 hr => ?_
  have tk : Takes (cxOf (L2.CX P w) P w K mg base N_law "law" (defScope s_law) (He.ga K "law") cdv A outer s0 H0 E) (WofE E) := takes_of rfl rfl rfl rfl
  have po : PassesOwn (model P w) (cxOf (L2.CX P w) P w K mg base N_law "law" (defScope s_law) (He.ga K "law") cdv A outer s0 H0 E).A (cxOf (L2.CX P w) P w K mg base N_law "law" (defScope s_law) (He.ga K "law") cdv A outer s0 H0 E).env (cxOf (L2.CX P w) P w K mg base N_law "law" (defScope s_law) (He.ga K "law") cdv A outer s0 H0 E).xe := passes_of (X := (cxOf (L2.CX P w) P w K mg base N_law "law" (defScope s_law) (He.ga K "law") cdv A outer s0 H0 E)) rfl
  have hu := hr.units
  exact (s_cons (s_asg (e_call (ok__law_mixed Z) hr tk rfl (a_cons (e_var (pv 0)) (a_cons e_int a_nil))) (g_name (pg_name (i := 1) sc_law.nd rfl (Or.inl rfl))))
    (s_cons (s_asg (e_call (ok_begin Z) hr tk rfl (a_cons (e_call (ok__law_manner Z) hr tk rfl (a_cons (e_var (pv 1)) a_nil)) a_nil)) (g_name (pg_name (i := 2) sc_law.nd rfl (Or.inl rfl))))
    (s_cons (s_asg (e_call (ok__law_program Z) hr tk rfl (a_cons (e_call (ok__law_mixed Z) hr tk rfl (a_cons (e_var (pv 0)) (a_cons e_int a_nil))) (a_cons e_int a_nil))) (g_name (pg_name (i := 3) sc_law.nd rfl (Or.inl rfl))))
    (s_cons (s_if (q_cmp (o_eq hu) (e_bin o_mod (e_bin o_div (e_var (pv 1)) e_int) e_int) e_int (nomark _)) (s_one (s_asg (e_bin o_addP (e_bin o_addP (e_tupP (a_cons e_str a_nil)) (e_var (pv 3))) (e_tupP (a_cons e_str a_nil))) (g_name (pg_name (i := 3) sc_law.nd rfl (Or.inl rfl))))) s_nil)
    (s_cons (s_asg (e_bin o_mod (e_bin o_div (e_var (pv 1)) e_int) e_int) (g_name (pg_name (i := 4) sc_law.nd rfl (Or.inl rfl))))
    (s_cons (s_own (o_lst (a_cons (e_tup (a_cons (e_var (pv 2)) (a_cons (e_tup (a_cons e_int (a_cons (e_tup a_nil) a_nil))) a_nil))) a_nil)) (pg_name (i := 5) sc_law.nd rfl (Or.inl rfl)))
    (s_cons (s_asg e_non (g_name (pg_name (i := 6) sc_law.nd rfl (Or.inl rfl))))
    (s_cons (s_asg e_bl (g_name (pg_name (i := 7) sc_law.nd rfl (Or.inl rfl))))
    (s_cons (s_for po rfl (i_rng2 rfl Z.b_range (a_cons e_int (a_cons (e_bin o_add (e_var (pv 4)) e_int) a_nil))) (g_name (pg_name (i := 8) sc_law.nd rfl (Or.inl rfl))) (s_one (s_if (q_w (w_and (q_val (e_var (pv 7))) (w_and1 (q_cmp o_is (e_var (pv 6)) e_non (nomark _))))) (s_cons (s_asg (e_call (ok_step Z) hr tk rfl (a_cons (e_var (pv 3)) (a_cons (e_ix (e_ixO (pv 5) (e_una u_neg e_int)) e_int) (a_cons (e_ix (e_ixO (pv 5) (e_una u_neg e_int)) e_int) a_nil)))) (g_tup rfl (gs_cons (g_name (pg_name (i := 9) sc_law.nd rfl (Or.inl rfl))) (gs_cons (g_name (pg_name (i := 10) sc_law.nd rfl (Or.inl rfl))) (gs_cons (g_name (pg_name (i := 11) sc_law.nd rfl (Or.inl rfl))) gs_nil)))))
    (s_cons (s_asg (e_cmp (o_eq hu) (e_var (pv 11)) e_str (nomark _)) (g_name (pg_name (i := 7) sc_law.nd rfl (Or.inl rfl))))
    (s_cons (s_if (q_bor 5 (q_w (w_and (q_val (e_var (pv 7))) (w_and1 (q_cmp (o_in hu) (e_tup (a_cons (e_var (pv 9)) (a_cons (e_var (pv 10)) a_nil))) (e_var (pv 5)) (by rfl)))))) (s_one (s_asg (e_tup (a_cons (e_bor 5 (e_metL PySem.F.plainAttrs_list PySem.F.slot_list_index PySem.F.type_list_index (m_ixn hr.units65) (e_var (pv 5)) (a_cons (e_tup (a_cons (e_var (pv 9)) (a_cons (e_var (pv 10)) a_nil))) a_nil))) (a_cons (e_bin o_sub (e_var (pv 8)) (e_bor 5 (e_metL PySem.F.plainAttrs_list PySem.F.slot_list_index PySem.F.type_list_index (m_ixn hr.units65) (e_var (pv 5)) (a_cons (e_tup (a_cons (e_var (pv 9)) (a_cons (e_var (pv 10)) a_nil))) a_nil)))) a_nil))) (g_name (pg_name (i := 6) sc_law.nd rfl (Or.inl rfl))))) s_nil)
    (s_one (s_app (pv 5) (e_tup (a_cons (e_var (pv 9)) (a_cons (e_var (pv 10)) a_nil)))))))) s_nil)))
    (s_frz 5 (s_one (s_ret (e_cmp (o_eq hu) (e_call (ok_ring Z) hr tk rfl (a_cons (e_var (pv 3)) (a_cons (e_var (pv 2)) (a_cons (e_var (pv 4)) a_nil)))) (e_var (pv 6)) (nomark _))))))))))))))
end
theorem x_cell {ns : List Int} {k : Int} (h : 0 ≤ k) : ∃ c, d__law_cell_at [.arr ns, .int k] = .ok (.int c) := by
  by_cases hk : k < ns.length
  · have hi : ∃ c, ixD (.arr ns) (.int k) = some (.int c) := by
      refine ⟨ns.getD k.toNat 0, ?_⟩
      show (atI ns k).map D.int = _
      unfold atI ixN
      rw [if_pos h, if_pos hk]
      show (ns[k.toNat]?).map D.int = _
      rw [List.getElem?_eq_getElem (by omega), List.getD_eq_getElem?_getD, List.getElem?_eq_getElem (by omega)]
      rfl
    obtain ⟨c, hc⟩ := hi
    exact ⟨c, by simp?! [v__law_cell_at, g__law_cell_at, t1__law_cell_at, hk, hc]⟩
  · exact ⟨0, by simp?! [v__law_cell_at, g__law_cell_at, t1__law_cell_at, hk]⟩
theorem x_mixed {ns : List Int} {k : Int} (h : 0 ≤ k) (h2 : k < 1000) : ∃ m, d__law_mixed [.arr ns, .int k] = .ok (.int m) ∧ 0 ≤ m ∧ m < 2147483629 := by
  obtain ⟨c, hc⟩ := x_cell (ns := ns) h
  simp?! [v__law_mixed, g__law_mixed, t1__law_mixed, hc]
  exact ⟨_, rfl, Int.emod_nonneg _ (by decide), Int.emod_lt_of_pos _ (by decide)⟩
theorem x_drawn {n k : Int} (h : 0 ≤ k) (h2 : k < 1000) : ∃ m, d__law_drawn [.int n, .int k] = .ok (.int m) ∧ 0 ≤ m ∧ m < 2147483629 := by
  simp?! [v__law_drawn, g__law_drawn, t1__law_drawn]
  exact ⟨_, rfl, Int.emod_nonneg _ (by decide), Int.emod_lt_of_pos _ (by decide)⟩
/-! the law's own numbers -/
/-- ten -/
theorem dv_zeros : ∀ (k a : Nat), (List.replicate k 48).foldl (fun acc c => acc * 10 + (c - 48)) a = a * 10 ^ k
  | 0, a => by simp
  | k + 1, a => by
    rw [List.replicate_succ, List.foldl_cons, dv_zeros k]
    show (a * 10 + 0) * 10 ^ k = a * 10 ^ (k + 1)
    rw [Nat.pow_succ, Nat.add_zero, Nat.mul_assoc, Nat.mul_comm 10]
theorem int_digits {x : Str} {n : Nat} (h : NumText.AllDigits x.cps.toList) (h1 : x.cps.toList ≠ []) (h2 : x.cps.toList.length ≤ 640) (e : NumText.digitsVal x.cps.toList = n) : intD [.str x] = some (.int n) := by
  show (if x.length ≤ 640 then (PySem.intText? x).map D.int else none) = _
  rw [if_pos (by rw [s_len]; exact h2), PySem.intText_digits h h1 (by rw [s_len]; omega), e]
  rfl
theorem x_ten {k : Int} (h : 0 ≤ k) (h2 : k ≤ 600) : d_ten [.int k] = .ok (.int (10 ^ k.toNat)) := by
  have z1 : (Str.ofString "0").length = 1 := by decide +kernel
  have l1 : (repS (Str.ofString "0") k).length = k.toNat := by rw [s_len, one_s 48 "0" zero_s, List.length_replicate]
  have o1 : (Str.ofString "1").cps.toList = [49] := by decide +kernel
  have e : (Str.ofString "1" ++ repS (Str.ofString "0") k).cps.toList = 49 :: List.replicate k.toNat 48 := by
    rw [app_tl, one_s 48 "0" zero_s, o1]; rfl
  have e1 : mulD (.str (Str.ofString "0")) (.int k) = some (.str (repS (Str.ofString "0") k)) := mul_si ⟨by omega, by omega, by rw [z1]; omega⟩
  have e2 : addD (.str (Str.ofString "1")) (.str (repS (Str.ofString "0") k)) = some (.str (Str.ofString "1" ++ repS (Str.ofString "0") k)) := add_ss (by
    rw [l1]
    have : (Str.ofString "1").length = 1 := by decide +kernel
    omega)
  have e3 : intD [.str (Str.ofString "1" ++ repS (Str.ofString "0") k)] = some (.int ((10 ^ k.toNat : Nat) : Int)) := by
    refine int_digits ?_ ?_ ?_ ?_
    · rw [e]
      intro c hc
      rcases List.mem_cons.mp hc with rfl | hc
      · omega
      · have := List.eq_of_mem_replicate hc
        omega
    · rw [e]; exact List.cons_ne_nil _ _
    · rw [e, List.length_cons, List.length_replicate]; omega
    · rw [e]
      unfold NumText.digitsVal
      rw [List.foldl_cons, dv_zeros]
      simp
  simp?! [v_ten, g_ten, e1, e2, e3]
  simp
/-! heights -/
theorem x_figures {a : Int} (h : a.natAbs < 10 ^ 500) : d_figures_of [.int a] = .ok (.int (figs a.natAbs)) := by
  obtain ⟨q1, q2⟩ := lenstr (i := (a.natAbs : Int)) (by omega) h
  have q2 : lenD [.str (Str.ofString (toString (a.natAbs : Int)))] = some (.int (figs a.natAbs)) := q2
  simp?! [v_figures_of, g_figures_of, abs_if a, q1, q2]
theorem x_height {a b : Int} (h : a.natAbs < 10 ^ 500) : d_height [.tup [.int a, .int b]] = .ok (.int (b + (figs a.natAbs : Int) - 1)) := by
  simp?! [v_height, g_height, x_figures h]
/-! _law_ten -/
theorem rng1_eq {f : Rho → Res (List D)} {ρ : Rho} {j : Int} (h : f ρ = .ok [.int j]) (h1 : 0 ≤ j) (h2 : j < 5000) : rng1 f ρ = .ok (rngD 0 j.toNat) := by
  unfold rng1
  rw [h]
  simp only [Res.bind]
  rw [if_pos ⟨by omega, by omega⟩]
theorem rngD_len {i : Int} {n : Nat} : (rngD i n).length = n := by unfold rngD; rw [List.length_map, List.length_range]
/-! exact and what it calls -/
theorem x_tenN {n : Nat} (h : n ≤ 600) : d_ten [.int (n : Int)] = .ok (.int (10 ^ n)) := by
  rw [x_ten (by omega) (by omega), Int.toNat_natCast]
theorem x_ten8 : d_ten [.int 8] = .ok (.int (10 ^ 8)) := x_ten (by decide) (by decide)
theorem x_bysize (m : Mn) (b : Bool) : d_by_size [.str m.s, .bl b] = .ok (.str (m.by b).s) := by
  have e1 : ((Str.ofString "even") == (Str.ofString "up")) = false := by decide +kernel
  have e2 : ((Str.ofString "even") == (Str.ofString "down")) = false := by decide +kernel
  have e3 : ((Str.ofString "away") == (Str.ofString "up")) = false := by decide +kernel
  have e4 : ((Str.ofString "away") == (Str.ofString "down")) = false := by decide +kernel
  have e5 : ((Str.ofString "nought") == (Str.ofString "up")) = false := by decide +kernel
  have e6 : ((Str.ofString "nought") == (Str.ofString "down")) = false := by decide +kernel
  have e7 : ((Str.ofString "down") == (Str.ofString "up")) = false := by decide +kernel
  cases m <;> cases b <;> (simp?! [Mn.s, Mn.by, Hw.s, v_by_size, g_by_size, t1_by_size, t2_by_size, e1, e2, e3, e4, e5, e6, e7, beq_self_eq_true, if_true, if_false, Bool.false_eq_true]; done)
theorem x_taken (h : Hw) {q r l : Int} : d_taken [.int q, .int r, .int l, .str h.s] = .ok (.int (takenZ h q r l)) := by
  unfold takenZ
  by_cases r0 : r = 0
  · subst r0
    simp?! [v_taken, g_taken, beq_self_eq_true, if_true]
  · have er : (r == 0) = false := by simpa using r0
    rw [if_neg r0]
    have e1 : ((Str.ofString "more") == (Str.ofString "nought")) = false := by decide +kernel
    have e2 : ((Str.ofString "even") == (Str.ofString "nought")) = false := by decide +kernel
    have e3 : ((Str.ofString "away") == (Str.ofString "nought")) = false := by decide +kernel
    have e4 : ((Str.ofString "even") == (Str.ofString "more")) = false := by decide +kernel
    have e5 : ((Str.ofString "away") == (Str.ofString "more")) = false := by decide +kernel
    have e6 : ((Str.ofString "even") == (Str.ofString "away")) = false := by decide +kernel
    cases h with
    | nought => simp?! [Hw.s, v_taken, g_taken, er, beq_self_eq_true]
    | more => simp?! [Hw.s, v_taken, g_taken, t1_taken, er, e1, beq_self_eq_true]
    | even =>
      by_cases h2 : 2 * r = l
      · have e7 : (2 * r == l) = true := by simpa using h2
        by_cases h3 : q % 2 = 1
        · simp?! [Hw.s, v_taken, g_taken, t1_taken, t2_taken, er, e2, e4, e6, e7, h3, beq_self_eq_true]
          rw [if_pos h2]
        · have e8 : (q % 2 == 1) = false := by simpa using h3
          simp?! [Hw.s, v_taken, g_taken, t1_taken, t2_taken, er, e2, e4, e6, e7, e8]
          rw [if_pos h2, if_neg h3]; simp
      · have e7 : (2 * r == l) = false := by simpa using h2
        simp?! [Hw.s, v_taken, g_taken, t1_taken, t2_taken, t3_taken, er, e2, e4, e7]
        rw [if_neg h2]; simp
    | away =>
      by_cases h2 : 2 * r = l
      · have e7 : (2 * r == l) = true := by simpa using h2
        simp?! [Hw.s, v_taken, g_taken, t1_taken, t2_taken, er, e3, e5, e7, beq_self_eq_true]
        rw [if_pos h2]; simp
      · have e7 : (2 * r == l) = false := by simpa using h2
        simp?! [Hw.s, v_taken, g_taken, t1_taken, t2_taken, t3_taken, er, e3, e5, e7]
        rw [if_neg h2]; simp
/-- the loop of fitted -/
theorem x_fitloop : ∀ (n : Nat) (a b : Int), a ≠ 0 → a.natAbs < 10 ^ n → ∀ m x y z, n < m →
    whileD c1_fitted b2_fitted m [.z (.int a), .z (.int b), x, y, z] = .nx [.z (.int (strip n a b).1), .z (.int (strip n a b).2), x, y, z]
  | 0, a, b, h, h2, m, x, y, z, hm => by
    have : (10 : Nat) ^ 0 = 1 := rfl
    omega
  | n + 1, a, b, h, h2, m, x, y, z, hm => by
    obtain ⟨m, rfl⟩ : ∃ k, m = k + 1 := ⟨m - 1, by omega⟩
    unfold strip
    by_cases h0 : a % 10 = 0
    · have ih := x_fitloop n (a / 10) (b + 1) (by omega) (by
        have : (10 : Nat) ^ (n + 1) = 10 ^ n * 10 := by rw [Nat.pow_succ]
        omega) m x y z (by omega)
      have hc : c1_fitted [.z (.int a), .z (.int b), x, y, z] = .ok true := by simp?! [c1_fitted, h0, beq_self_eq_true]
      have hb : b2_fitted [.z (.int a), .z (.int b), x, y, z] = .nx [.z (.int (a / 10)), .z (.int (b + 1)), x, y, z] := by simp?! [b2_fitted]
      rw [while_t hc hb, ih, if_pos h0]
    · have e : (a % 10 == 0) = false := by simpa using h0
      have hc : c1_fitted [.z (.int a), .z (.int b), x, y, z] = .ok false := by simp?! [c1_fitted, e]
      rw [while_f hc, if_neg h0]
def optR : Option (Int × Int) → Res D
  | none => .ex "TooGreat"
  | some (a, b) => .ok (.tup [.int a, .int b])
theorem sg_eq (b : Bool) : (1 : Int) - 2 * (if b = true then 1 else 0) = sgZ b := rfl
theorem x_fitted (h : Hw) {w p : Int} {b : Bool} (h0 : 0 < w) (h1 : w.natAbs < 10 ^ 450) : d_fitted [.int w, .int p, .bl b, .str h.s] = optR (fitZ h w p b) := by
  have hl := x_fitloop 5000 w p (by omega) (Nat.lt_of_lt_of_le h1 (pow10_le (by decide))) 100000 (.z (.bl b)) (.z (.str h.s)) .u (by decide)
  obtain ⟨s1, s2, _, _⟩ := strip_pos 5000 w p h0
  have e0 : (w == 0) = false := by simpa using (show w ≠ 0 by omega)
  have hb : (strip 5000 w p).1.natAbs < 10 ^ 500 := Nat.lt_of_le_of_lt (by omega) (Nat.lt_of_lt_of_le h1 (pow10_le (by decide)))
  have hh := x_height (a := (strip 5000 w p).1) (b := (strip 5000 w p).2) hb
  have eh : (strip 5000 w p).2 + (figs (strip 5000 w p).1.natAbs : Int) - 1 = hgZ (strip 5000 w p) := rfl
  rw [eh] at hh
  unfold fitZ
  by_cases c1 : 40 < hgZ (strip 5000 w p)
  · rw [if_pos c1]
    simp?! [v_fitted, g_fitted, t1_fitted, t2_fitted, t3_fitted, e0, hl, hh, c1, sg_eq]
    rfl
  · rw [if_neg c1]
    have d1 : decide (40 < hgZ (strip 5000 w p)) = false := decide_eq_false c1
    by_cases c2 : hgZ (strip 5000 w p) < -40
    · rw [if_pos c2]
      have ek : (h.s == Str.ofString "more") = decide (h = .more) := by cases h <;> decide +kernel
      by_cases hm : h = .more
      · rw [decide_eq_true hm] at ek
        rw [if_pos hm]
        simp?! [v_fitted, g_fitted, t1_fitted, t2_fitted, t3_fitted, t4_fitted, e0, hl, hh, d1, c2, sg_eq, ek, optR]
      · rw [decide_eq_false hm] at ek
        rw [if_neg hm]
        simp?! [v_fitted, g_fitted, t1_fitted, t2_fitted, t3_fitted, t4_fitted, e0, hl, hh, d1, c2, sg_eq, ek, optR]
    · rw [if_neg c2]
      have d2 : decide (hgZ (strip 5000 w p) < -40) = false := decide_eq_false c2
      have m1 : mulD (.int (sgZ b)) (.int (strip 5000 w p).1) = some (.int (sgZ b * (strip 5000 w p).1)) := mul_l (by unfold sgZ; cases b <;> decide)
      simp?! [v_fitted, g_fitted, t1_fitted, t2_fitted, t3_fitted, t4_fitted, t5_fitted, e0, hl, hh, d1, d2, sg_eq, m1, optR]
theorem cast10 (a : Nat) : ((10 ^ a : Nat) : Int) = 10 ^ a := by
  rw [Int.natCast_pow]
  rfl
theorem c1_pf {U L : Nat} {p : Int} (bU : U < 10 ^ 200) (bL : L < 10 ^ 200) (h1 : -450 ≤ p) (h2 : p ≤ 450) :
    c1_power_for [.z (.int (U : Int)), .z (.int (L : Int)), .z (.int p)] = .ok (decide (L * 10 ^ p.toNat * 10 ^ 8 ≤ U * 10 ^ (-p).toNat)) := by
  have m1 := mul_t (u := (U : Int)) (n := (-p).toNat) (Nat.lt_of_lt_of_le bU (pow10_le (by decide))) (by omega)
  have m2 := mul_t (u := (L : Int)) (n := p.toNat) (Nat.lt_of_lt_of_le bL (pow10_le (by decide))) (by omega)
  have m3 := mul_t (u := (L : Int) * 10 ^ p.toNat) (n := 8) (Nat.lt_of_lt_of_le (natAbs_mul_pow (k := 200) bL) (pow10_le (by omega))) (by omega)
  have e : ((L : Int) * 10 ^ p.toNat * 10 ^ 8 ≤ (U : Int) * 10 ^ (-p).toNat) ↔ (L * 10 ^ p.toNat * 10 ^ 8 ≤ U * 10 ^ (-p).toNat) := by
    rw [← Int.ofNat_le, Int.natCast_mul, Int.natCast_mul, Int.natCast_mul, cast10, cast10, cast10]
  simp?! [c1_power_for, maxz, x_tenN, x_ten8, m1, m2, m3]
  rw [decide_eq_decide.mpr e]
theorem x_power {U L : Nat} (hU : 0 < U) (hL : 0 < L) (bU : U < 10 ^ 200) (bL : L < 10 ^ 200) : d_power_for [.int (U : Int), .int (L : Int)] = .ok (.int (pwN U L)) := by
  have f1 := figs_pos U
  have f2 := figs_le (by decide) bU
  have f3 := figs_pos L
  have f4 := figs_le (by decide) bL
  have e1 := x_figures (a := (U : Int)) (Nat.lt_of_lt_of_le bU (pow10_le (by decide)))
  have e2 := x_figures (a := (L : Int)) (Nat.lt_of_lt_of_le bL (pow10_le (by decide)))
  rw [Int.natAbs_natCast] at e1 e2
  have key : d_power_for [.int (U : Int), .int (L : Int)] = finR (t1_power_for [.z (.int (U : Int)), .z (.int (L : Int)), .z (.int (pw0 U L))]) := by
    simp?! [v_power_for, g_power_for, e1, e2]
    rfl
  rw [key]
  have b0 : -450 ≤ pw0 U L ∧ pw0 U L ≤ 440 := by unfold pw0; omega
  have c0 := c1_pf (p := pw0 U L) bU bL (by omega) (by omega)
  unfold pwN
  by_cases h : L * 10 ^ (pw0 U L).toNat * 10 ^ 8 ≤ U * 10 ^ (-(pw0 U L)).toNat
  · rw [decide_eq_true h] at c0
    have c1 := c1_pf (p := pw0 U L + 1) bU bL (by omega) (by omega)
    rw [decide_eq_false (Nat.not_le.mpr (pw_hi hL rfl))] at c1
    have hb : b2_power_for [.z (.int (U : Int)), .z (.int (L : Int)), .z (.int (pw0 U L))] = .nx [.z (.int (U : Int)), .z (.int (L : Int)), .z (.int (pw0 U L + 1))] := by simp?! [b2_power_for]
    have hw : whileD c1_power_for b2_power_for 100000 [.z (.int (U : Int)), .z (.int (L : Int)), .z (.int (pw0 U L))] = .nx [.z (.int (U : Int)), .z (.int (L : Int)), .z (.int (pw0 U L + 1))] := by
      rw [while_t (n := 99999) c0 hb, while_f (n := 99998) c1]
    rw [if_pos h]
    simp?! [t1_power_for, t2_power_for, hw]
  · rw [decide_eq_false h] at c0
    have hw : whileD c1_power_for b2_power_for 100000 [.z (.int (U : Int)), .z (.int (L : Int)), .z (.int (pw0 U L))] = .nx [.z (.int (U : Int)), .z (.int (L : Int)), .z (.int (pw0 U L))] := while_f (n := 99999) c0
    rw [if_neg h]
    simp?! [t1_power_for, t2_power_for, hw]
theorem finR_ret {r : Res D} {ρ : Rho} : finR (retR r ρ) = r := by cases r <;> rfl
theorem pw_bound {U L : Nat} (bU : U < 10 ^ 200) (bL : L < 10 ^ 200) : -250 ≤ pwN U L ∧ pwN U L ≤ 250 := by
  have f1 := figs_pos U
  have f2 := figs_le (by decide) bU
  have f3 := figs_pos L
  have f4 := figs_le (by decide) bL
  unfold pwN pw0
  split <;> omega
/-- the quotient and the rest that are rounded -/
theorem q_facts {U L : Nat} (hU : 0 < U) (hL : 0 < L) (bU : U < 10 ^ 200) : 0 < (U : Int) * 10 ^ (-(pwN U L)).toNat / ((L : Int) * 10 ^ (pwN U L).toNat) ∧ (U : Int) * 10 ^ (-(pwN U L)).toNat / ((L : Int) * 10 ^ (pwN U L).toNat) < 10 ^ 8 ∧ 0 < (L : Int) * 10 ^ (pwN U L).toNat ∧ 0 < (U : Int) * 10 ^ (-(pwN U L)).toNat := by
  obtain ⟨h1, h2⟩ := pw_low hU hL
  have l0 : 0 < L * 10 ^ (pwN U L).toNat := Nat.mul_pos hL (pow10_pos _)
  have u0 : 0 < U * 10 ^ (-(pwN U L)).toNat := Nat.mul_pos hU (pow10_pos _)
  have e1 : (U : Int) * 10 ^ (-(pwN U L)).toNat = ((U * 10 ^ (-(pwN U L)).toNat : Nat) : Int) := by rw [Int.natCast_mul, cast10]
  have e2 : (L : Int) * 10 ^ (pwN U L).toNat = ((L * 10 ^ (pwN U L).toNat : Nat) : Int) := by rw [Int.natCast_mul, cast10]
  rw [e1, e2]
  generalize U * 10 ^ (-(pwN U L)).toNat = x at *
  generalize L * 10 ^ (pwN U L).toNat = y at *
  have a1 : 0 < x / y := Nat.div_pos (by omega) l0
  have a2 : x / y < 10 ^ 8 := Nat.div_lt_of_lt_mul (by omega)
  rw [← Int.natCast_ediv]
  exact ⟨by omega, by omega, by omega, by omega⟩
theorem taken_bound (h : Hw) {q r l : Int} : q ≤ takenZ h q r l ∧ takenZ h q r l ≤ q + 1 := by
  unfold takenZ
  split
  · omega
  · cases h <;> (repeat' split) <;> omega
theorem x_exact (m : Mn) {u l : Int} (hl : l ≠ 0) (bu : u.natAbs < 10 ^ 200) (bl : l.natAbs < 10 ^ 200) : d_exact [.int u, .int l, .str m.s] = optR (exZ m u l) := by
  unfold exZ
  by_cases h0 : u = 0
  · subst h0
    rw [if_pos rfl]
    simp?! [v_exact, g_exact, beq_self_eq_true, optR]
  · rw [if_neg h0]
    have e0 : (u == 0) = false := by simpa using h0
    obtain ⟨p1, p2⟩ := pw_bound bu bl
    have hU : 0 < u.natAbs := by omega
    have hL : 0 < l.natAbs := by omega
    obtain ⟨f1, f2, f3, f4⟩ := q_facts hU hL bu
    have ep := x_power hU hL bu bl
    generalize hp : pwN u.natAbs l.natAbs = p at *
    have t1 := x_tenN (n := (-p).toNat) (by omega)
    have t2 := x_tenN (n := p.toNat) (by omega)
    have m1 := mul_t (u := (u.natAbs : Int)) (n := (-p).toNat) (Nat.lt_of_lt_of_le bu (pow10_le (by decide))) (by omega)
    have m2 := mul_t (u := (l.natAbs : Int)) (n := p.toNat) (Nat.lt_of_lt_of_le bl (pow10_le (by decide))) (by omega)
    have dv := div_z (i := (u.natAbs : Int) * 10 ^ (-p).toNat) f3 (Nat.lt_of_lt_of_le (natAbs_mul_pow (u := (l.natAbs : Int)) (k := 200) bl) (pow10_le (by omega)))
    have md := mod_p (i := (u.natAbs : Int) * 10 ^ (-p).toNat) f3
    have bs := x_bysize m (decide (u < 0) != decide (l < 0))
    have tb := taken_bound (m.by (decide (u < 0) != decide (l < 0))) (q := (u.natAbs : Int) * 10 ^ (-p).toNat / ((l.natAbs : Int) * 10 ^ p.toNat)) (r := (u.natAbs : Int) * 10 ^ (-p).toNat % ((l.natAbs : Int) * 10 ^ p.toNat)) (l := (l.natAbs : Int) * 10 ^ p.toNat)
    have p9 : (10 : Nat) ^ 9 ≤ 10 ^ 450 := pow10_le (by decide)
    have ft := x_fitted (m.by (decide (u < 0) != decide (l < 0))) (p := p) (b := decide (u < 0) != decide (l < 0)) (w := takenZ (m.by (decide (u < 0) != decide (l < 0))) ((u.natAbs : Int) * 10 ^ (-p).toNat / ((l.natAbs : Int) * 10 ^ p.toNat)) ((u.natAbs : Int) * 10 ^ (-p).toNat % ((l.natAbs : Int) * 10 ^ p.toNat)) ((l.natAbs : Int) * 10 ^ p.toNat)) (by omega) (by omega)
    have nb : ∀ a b : Bool, (!(a == b)) = (a != b) := fun a b => rfl
    have key : d_exact [.int u, .int l, .str m.s] = finR (t5_exact [.z (.int (u.natAbs : Int)), .z (.int (l.natAbs : Int)), .z (.str m.s), .z (.bl (decide (u < 0) != decide (l < 0))), .z (.int p), .u]) := by
      simp?! [v_exact, g_exact, t1_exact, t2_exact, t3_exact, t4_exact, e0, abs_if, ep, nb]
    rw [key]
    simp only
    generalize (decide (u < 0) != decide (l < 0)) = bb at *
    generalize m.by bb = hw at *
    generalize (u.natAbs : Int) * 10 ^ (-p).toNat = UU at *
    generalize (l.natAbs : Int) * 10 ^ p.toNat = LL at *
    simp?! [t5_exact, t6_exact, t7_exact, t8_exact, maxz, t1, t2, m1, m2, dv, md, bs, x_taken]
    rw [finR_ret]
    exact ft
/-! the law's exact -/
/-! manners -/
theorem x_manner {n : Int} : ∃ m : Mn, d__law_manner [.int n] = .ok (.str m.s) := by
  have key : d__law_manner [.int n] = .ok (([.str Mn.even.s, .str Mn.away.s, .str Mn.nought.s, .str Mn.up.s, .str Mn.down.s] : List D).getD (n % 5).toNat .non) := by
    simp?! [v__law_manner, g__law_manner]
    rfl
  have h : (n % 5).toNat < 5 := by omega
  rw [key]
  generalize (n % 5).toNat = k at h
  match k, h with
  | 0, _ => exact ⟨.even, rfl⟩
  | 1, _ => exact ⟨.away, rfl⟩
  | 2, _ => exact ⟨.nought, rfl⟩
  | 3, _ => exact ⟨.up, rfl⟩
  | 4, _ => exact ⟨.down, rfl⟩
/-! comparing, comprehensions -/
mutual
theorem eqd_refl : ∀ (n : Nat) (d : D), plain n d = true → eqd d d = true
  | _, .non, _ => rfl
  | _, .bl b, _ => by simp [eqd]
  | _, .int i, _ => by simp [eqd]
  | _, .str x, _ => by simp [eqd]
  | n, .lst xs, h => by
    cases n with
    | zero => cases h
    | succ n => exact eqds_refl n xs h
  | n, .tup xs, h => by
    cases n with
    | zero => cases h
    | succ n => exact eqds_refl n xs h
  | n, .fn _, h => by cases n <;> cases h
  | n, .ty _, h => by cases n <;> cases h
  | n, .dK _, h => by cases n <;> cases h
  | n, .dT _, h => by cases n <;> cases h
  | n, .arr _, h => by cases n <;> cases h
  | n, .pro _, h => by cases n <;> cases h
theorem eqds_refl : ∀ (n : Nat) (ds : List D), plains n ds = true → eqds ds ds = true
  | _, [], _ => rfl
  | n, d :: ds, h => by
    have h : (plain n d && plains n ds) = true := h
    rw [Bool.and_eq_true] at h
    show (eqd d d && eqds ds ds) = true
    rw [eqd_refl n d h.1, eqds_refl n ds h.2]
    rfl
end
theorem eq_same {d : D} (h : plain 64 d = true) : eqD d d = some (.bl true) := by
  unfold eqD eqOk
  rw [h, Bool.and_self, Bool.and_self, Bool.or_true, if_pos rfl, eqd_refl 64 d h]
theorem comp_f {g : Tg} {t : Rho → Res Bool} {e : Rho → Res D} {ρ ρ1 : Rho} {d : D} {ds : List D} (h : g ρ d = some ρ1) (h2 : t ρ1 = .ok false) : compD g t e ρ (d :: ds) = compD g t e ρ ds := by
  rw [compD, h]
  simp only
  rw [h2]
  rfl
theorem comp_t {g : Tg} {t : Rho → Res Bool} {e : Rho → Res D} {ρ ρ1 : Rho} {d y : D} {ds ys : List D} (h : g ρ d = some ρ1) (h2 : t ρ1 = .ok true) (h3 : e ρ1 = .ok y) (h4 : compD g t e ρ ds = .ok ys) : compD g t e ρ (d :: ds) = .ok (y :: ys) := by
  rw [compD, h]
  simp only
  rw [h2]
  simp only [if_true]
  rw [h3]
  simp only
  rw [h4]
  rfl
theorem lc_eq {f : Rho → Res (List D)} {i : Nat} {t : Rho → Res Bool} {e : Rho → Res D} {ρ : Rho} {ds ys : List D} (h : f ρ = .ok ds) (hl : ds.length ≤ 1000000) (h2 : compD (gn i) t e (ρ.set i .u) ds = .ok ys) : lcD f i t e ρ = .ok (.lst ys) := by
  unfold lcD
  rw [h]
  simp only [Res.bind]
  rw [if_pos (by rw [sizeLine_eq]; omega), h2]
/-! plus, minus, times, over, less, and the law's deed -/
def NumB (a b : Int) : Prop := a.natAbs < 10 ^ 8 ∧ -48 ≤ b ∧ b ≤ 40
theorem num_b {a b : Int} (h : NumOk a b) : NumB a b := by
  rcases h with ⟨h1, h2⟩ | ⟨h0, _, h3, h4, h5⟩
  · subst h1; subst h2
    exact ⟨by decide, by decide, by decide⟩
  · have f1 := figs_pos a.natAbs
    have f2 := figs_le (by decide) h3
    exact ⟨h3, by omega, by omega⟩
/-- the lower power -/
def lowP (b1 b2 : Int) : Int := if b2 < b1 then b2 else b1
theorem low_f (b1 b2 : Int) : lowP b1 b2 ≤ b1 ∧ lowP b1 b2 ≤ b2 ∧ (lowP b1 b2 = b1 ∨ lowP b1 b2 = b2) := by unfold lowP; split <;> omega
theorem big_small {a : Int} {k : Nat} (h : a.natAbs < 10 ^ 8) (hk : k ≤ 92) : (a * 10 ^ k).natAbs < 10 ^ 100 := Nat.lt_of_lt_of_le (natAbs_mul_pow h) (pow10_le (by omega))
theorem mul_a {a : Int} {k : Nat} (h : a.natAbs < 10 ^ 8) (hk : k ≤ 92) : mulD (.int a) (.int (10 ^ k)) = some (.int (a * 10 ^ k)) := mul_t (Nat.lt_of_lt_of_le h (pow10_le (by decide))) (by omega)
theorem x_level {a1 b1 a2 b2 : Int} (n1 : NumB a1 b1) (n2 : NumB a2 b2) : d_level [.tup [.int a1, .int b1], .tup [.int a2, .int b2]] = .ok (.tup [.int (a1 * 10 ^ (b1 - lowP b1 b2).toNat), .int (a2 * 10 ^ (b2 - lowP b1 b2).toNat), .int (lowP b1 b2)]) := by
  obtain ⟨h1, h2, h3⟩ := n1
  obtain ⟨g1, g2, g3⟩ := n2
  obtain ⟨l1, l2, l3⟩ := low_f b1 b2
  have e : (if b2 < b1 then b2 else b1) = lowP b1 b2 := rfl
  have t1 := x_ten (k := b1 - lowP b1 b2) (by omega) (by omega)
  have t2 := x_ten (k := b2 - lowP b1 b2) (by omega) (by omega)
  have m1 := mul_a (k := (b1 - lowP b1 b2).toNat) h1 (by omega)
  have m2 := mul_a (k := (b2 - lowP b1 b2).toNat) g1 (by omega)
  simp?! [v_level, g_level, t1_level, e, t1, t2, m1, m2]
theorem x_ofpower (m : Mn) {w p : Int} (hw : w.natAbs < 10 ^ 101) (h1 : -98 ≤ p) (h2 : p ≤ 98) : d_of_power [.int w, .int p, .str m.s] = optR (exZ m (w * 10 ^ p.toNat) (10 ^ (-p).toNat)) := by
  have t1 := x_tenN (n := p.toNat) (by omega)
  have t2 := x_tenN (n := (-p).toNat) (by omega)
  have m1 := mul_t (u := w) (n := p.toNat) (Nat.lt_of_lt_of_le hw (pow10_le (by decide))) (by omega)
  have hp := pow_ge1 (-p).toNat
  have ex := x_exact m (u := w * 10 ^ p.toNat) (l := 10 ^ (-p).toNat) (by omega) (Nat.lt_of_lt_of_le (natAbs_mul_pow hw) (pow10_le (by omega))) (by rw [pow_z]; exact Nat.pow_lt_pow_right (by decide) (by omega))
  simp?! [v_of_power, g_of_power, maxz, t1, t2, m1, ex, finR_ret]
def plU (a1 b1 a2 b2 : Int) : Int := (a1 * 10 ^ (b1 - lowP b1 b2).toNat + a2 * 10 ^ (b2 - lowP b1 b2).toNat) * 10 ^ (lowP b1 b2).toNat
def plL (b1 b2 : Int) : Int := 10 ^ (-(lowP b1 b2)).toNat
theorem x_plus (m : Mn) {a1 b1 a2 b2 : Int} (n1 : NumB a1 b1) (n2 : NumB a2 b2) : d_plus [.tup [.int a1, .int b1], .tup [.int a2, .int b2], .str m.s] = optR (exZ m (plU a1 b1 a2 b2) (plL b1 b2)) := by
  have e := x_level n1 n2
  obtain ⟨h1, h2, h3⟩ := n1
  obtain ⟨g1, g2, g3⟩ := n2
  obtain ⟨l1, l2, l3⟩ := low_f b1 b2
  have s1 := big_small (k := (b1 - lowP b1 b2).toNat) h1 (by omega)
  have s2 := big_small (k := (b2 - lowP b1 b2).toNat) g1 (by omega)
  have p1 : (10 : Nat) ^ 101 = 10 ^ 100 * 10 := Nat.pow_succ _ _
  have o := x_ofpower m (w := a1 * 10 ^ (b1 - lowP b1 b2).toNat + a2 * 10 ^ (b2 - lowP b1 b2).toNat) (p := lowP b1 b2) (by omega) (by omega) (by omega)
  simp?! [v_plus, g_plus, t1_plus, e, o, finR_ret]
  rfl
theorem x_turned {a b : Int} : d_turned [.tup [.int a, .int b]] = .ok (.tup [.int (-a), .int b]) := by
  simp?! [v_turned, g_turned]
theorem x_minus (m : Mn) {a1 b1 a2 b2 : Int} (n1 : NumB a1 b1) (n2 : NumB a2 b2) : d_minus [.tup [.int a1, .int b1], .tup [.int a2, .int b2], .str m.s] = optR (exZ m (plU a1 b1 (-a2) b2) (plL b1 b2)) := by
  have p := x_plus m n1 (show NumB (-a2) b2 from ⟨by rw [Int.natAbs_neg]; exact n2.1, n2.2⟩)
  simp?! [v_minus, g_minus, x_turned, p, finR_ret]
theorem x_times (m : Mn) {a1 b1 a2 b2 : Int} (n1 : NumB a1 b1) (n2 : NumB a2 b2) : d_times [.tup [.int a1, .int b1], .tup [.int a2, .int b2], .str m.s] = optR (exZ m (a1 * a2 * 10 ^ (b1 + b2).toNat) (10 ^ (-(b1 + b2)).toNat)) := by
  obtain ⟨h1, h2, h3⟩ := n1
  obtain ⟨g1, g2, g3⟩ := n2
  have s1 : (a1 * a2).natAbs < 10 ^ 101 := by
    rw [Int.natAbs_mul]
    have q1 : a1.natAbs * a2.natAbs ≤ 10 ^ 8 * 10 ^ 8 := Nat.mul_le_mul (Nat.le_of_lt h1) (Nat.le_of_lt g1)
    have q2 : (10 : Nat) ^ 17 ≤ 10 ^ 101 := pow10_le (by decide)
    omega
  have o := x_ofpower m (w := a1 * a2) (p := b1 + b2) s1 (by omega) (by omega)
  simp?! [v_times, g_times, o, finR_ret]
theorem x_over (m : Mn) {a1 b1 a2 b2 : Int} (n1 : NumB a1 b1) (n2 : NumB a2 b2) : d_over [.tup [.int a1, .int b1], .tup [.int a2, .int b2], .str m.s] = if a2 = 0 then .ex "NoDeed" else optR (exZ m (a1 * 10 ^ (b1 - b2).toNat) (a2 * 10 ^ (-(b1 - b2)).toNat)) := by
  obtain ⟨h1, h2, h3⟩ := n1
  obtain ⟨g1, g2, g3⟩ := n2
  by_cases h0 : a2 = 0
  · subst h0
    rw [if_pos rfl]
    simp?! [v_over, g_over, beq_self_eq_true]
  · rw [if_neg h0]
    have e0 : (a2 == 0) = false := by simpa using h0
    have t1 := x_tenN (n := (b1 - b2).toNat) (by omega)
    have t2 := x_tenN (n := (-(b1 - b2)).toNat) (by omega)
    have m1 := mul_a (k := (b1 - b2).toNat) h1 (by omega)
    have m2 := mul_a (k := (-(b1 - b2)).toNat) g1 (by omega)
    have hp := pow_ge1 (-(b1 - b2)).toNat
    have ex := x_exact m (u := a1 * 10 ^ (b1 - b2).toNat) (l := a2 * 10 ^ (-(b1 - b2)).toNat) (Int.mul_ne_zero h0 (by omega)) (Nat.lt_of_lt_of_le (big_small h1 (by omega)) (pow10_le (by decide))) (Nat.lt_of_lt_of_le (big_small g1 (by omega)) (pow10_le (by decide)))
    simp?! [v_over, g_over, t1_over, t2_over, e0, maxz, t1, t2, m1, m2, ex, finR_ret]
theorem x_less {a1 b1 a2 b2 : Int} (n1 : NumB a1 b1) (n2 : NumB a2 b2) : d_less [.tup [.int a1, .int b1], .tup [.int a2, .int b2]] = .ok (.bl (decide (a1 * 10 ^ (b1 - lowP b1 b2).toNat < a2 * 10 ^ (b2 - lowP b1 b2).toNat))) := by
  simp?! [v_less, g_less, t1_less, x_level n1 n2]
/-! the law's -/
def tv : Option (Int × Int) → D
  | none => .tup [.str "refused", .int 0]
  | some (a, b) => .tup [.str "told", .tup [.int a, .int b]]
/-! the deeds by value -/
theorem pl_val (a1 b1 a2 b2 : Int) : (plU a1 b1 a2 b2 : Rat) / (plL b1 b2 : Rat) = vl (a1, b1) + vl (a2, b2) := by
  obtain ⟨l1, l2, _⟩ := low_f b1 b2
  unfold plU plL
  rw [frac_val, Rat.intCast_add, Rat.add_mul, vl_at l1, vl_at l2]
theorem pl_ne (b1 b2 : Int) : plL b1 b2 ≠ 0 := by
  have := pow_ge1 (-(lowP b1 b2)).toNat
  unfold plL
  omega
theorem ti_val (a1 b1 a2 b2 : Int) : ((a1 * a2 * 10 ^ (b1 + b2).toNat : Int) : Rat) / ((10 ^ (-(b1 + b2)).toNat : Int) : Rat) = vl (a1, b1) * vl (a2, b2) := by
  rw [frac_val, Rat.intCast_mul, T_add]
  show _ = (a1 : Rat) * T b1 * ((a2 : Rat) * T b2)
  grind
theorem ov_val (a1 b1 : Int) {a2 : Int} (b2 : Int) (h : a2 ≠ 0) : ((a1 * 10 ^ (b1 - b2).toNat : Int) : Rat) / ((a2 * 10 ^ (-(b1 - b2)).toNat : Int) : Rat) = vl (a1, b1) / vl (a2, b2) := by
  have h1 := frac_val a1 (b1 - b2)
  have e : T (b1 - b2) * T b2 = T b1 := by rw [← T_add]; congr 1; omega
  have p2 := T_pos b2
  have h2 : (a2 : Rat) ≠ 0 := fun z => h (Rat.intCast_eq_zero_iff.mp z)
  rw [Rat.intCast_mul a2]
  show _ = (a1 : Rat) * T b1 / ((a2 : Rat) * T b2)
  generalize ((a1 * 10 ^ (b1 - b2).toNat : Int) : Rat) = x at *
  have n3 : ((10 ^ (-(b1 - b2)).toNat : Int) : Rat) ≠ 0 := fun z => by
    have := pow_ge1 (-(b1 - b2)).toNat
    have := Rat.intCast_eq_zero_iff.mp z
    omega
  generalize ((10 ^ (-(b1 - b2)).toNat : Int) : Rat) = y at *
  generalize T (b1 - b2) = t at *
  generalize T b1 = t1 at *
  generalize T b2 = t2 at *
  have n2 : t2 ≠ 0 := by grind
  have hx : x = (a1 : Rat) * t * y := by grind
  rw [hx, ← e]
  grind
theorem le_val (a1 b1 a2 b2 : Int) : a1 * 10 ^ (b1 - lowP b1 b2).toNat < a2 * 10 ^ (b2 - lowP b1 b2).toNat ↔ vl (a1, b1) < vl (a2, b2) := by
  obtain ⟨l1, l2, _⟩ := low_f b1 b2
  rw [vl_at l1, vl_at l2, Rat.mul_lt_mul_right (T_pos _), Rat.intCast_lt_intCast]
theorem pow_ne (n : Nat) : (10 : Int) ^ n ≠ 0 := by have := pow_ge1 n; omega
theorem y_plus (m : Mn) {a1 b1 a2 b2 : Int} (n1 : NumB a1 b1) (n2 : NumB a2 b2) : d_plus [.tup [.int a1, .int b1], .tup [.int a2, .int b2], .str m.s] = optR (exV m (vl (a1, b1) + vl (a2, b2))) := by
  rw [x_plus m n1 n2, ex_V m (pl_ne _ _), pl_val]
theorem y_minus (m : Mn) {a1 b1 a2 b2 : Int} (n1 : NumB a1 b1) (n2 : NumB a2 b2) : d_minus [.tup [.int a1, .int b1], .tup [.int a2, .int b2], .str m.s] = optR (exV m (vl (a1, b1) - vl (a2, b2))) := by
  have e : vl (-a2, b2) = -vl (a2, b2) := vl_neg (a2, b2)
  rw [x_minus m n1 n2, ex_V m (pl_ne _ _), pl_val, e, ← Rat.sub_eq_add_neg]
theorem y_times (m : Mn) {a1 b1 a2 b2 : Int} (n1 : NumB a1 b1) (n2 : NumB a2 b2) : d_times [.tup [.int a1, .int b1], .tup [.int a2, .int b2], .str m.s] = optR (exV m (vl (a1, b1) * vl (a2, b2))) := by
  rw [x_times m n1 n2, ex_V m (pow_ne _), ti_val]
theorem y_over (m : Mn) {a1 b1 a2 b2 : Int} (n1 : NumB a1 b1) (n2 : NumB a2 b2) : d_over [.tup [.int a1, .int b1], .tup [.int a2, .int b2], .str m.s] = if a2 = 0 then .ex "NoDeed" else optR (exV m (vl (a1, b1) / vl (a2, b2))) := by
  rw [x_over m n1 n2]
  by_cases h : a2 = 0
  · rw [if_pos h, if_pos h]
  · rw [if_neg h, if_neg h, ex_V m (Int.mul_ne_zero h (pow_ne _)), ov_val a1 b1 b2 h]
theorem y_less {a1 b1 a2 b2 : Int} (n1 : NumB a1 b1) (n2 : NumB a2 b2) : d_less [.tup [.int a1, .int b1], .tup [.int a2, .int b2]] = .ok (.bl (decide (vl (a1, b1) < vl (a2, b2)))) := by
  rw [x_less n1 n2]
  congr 2
  exact decide_eq_decide.mpr (le_val a1 b1 a2 b2)
theorem NumB.neg {a b : Int} (h : NumB a b) : NumB (-a) b := ⟨by rw [Int.natAbs_neg]; exact h.1, h.2⟩
/-! ranges -/
abbrev numD (s : Int × Int) : D := .tup [.int s.1, .int s.2]
/-! drawn ranges -/
/-! intervals -/
/-! entries -/
def tidyZ (a b : Int) : Int × Int := if a = 0 then (0, 0) else strip 5000 a b
theorem tidy_vl (a b : Int) : vl (tidyZ a b) = vl (a, b) := by
  unfold tidyZ
  split
  · rename_i h; subst h; rw [vl_zero, vl_zero]
  · exact vl_strip 5000 a b
theorem tidy_ok {a b : Int} (ha : a.natAbs < 10 ^ 8) (h1 : -30 ≤ b) (h2 : b ≤ 30) : NumOk (tidyZ a b).1 (tidyZ a b).2 := by
  have core : ∀ a : Int, 0 < a → a.natAbs < 10 ^ 8 → NumOk (strip 5000 a b).1 (strip 5000 a b).2 := by
    intro a h0 ha
    obtain ⟨t1, t2⟩ := hg_T (b := b) h0
    have f1 := figs_pos a.natAbs
    have f2 := figs_le (k := 8) (by decide) ha
    have hh : hgZ (a, b) = b + (figs a.natAbs : Int) - 1 := rfl
    refine strip_ok h0 (by omega) ?_ ?_
    · have := T_mono (show hgZ (a, b) + 1 ≤ 41 by omega)
      grind
    · have := T_mono (show (-40 : Int) ≤ hgZ (a, b) by omega)
      grind
  unfold tidyZ
  split
  · exact zero_ok
  · rename_i h
    by_cases h0 : 0 < a
    · exact core a h0 ha
    · have e : a = -(-a) := by omega
      rw [e, strip_neg]
      exact (core (-a) (by omega) (by rw [Int.natAbs_neg]; exact ha)).neg
structure Ent where
  neg : Bool
  ah : List Nat
  pt : Bool
  be : List Nat
structure EntOk (e : Ent) : Prop where
  a : AllDigits e.ah
  b : AllDigits e.be
  ne : e.ah ≠ []
  np : e.pt = false → e.be = []
  len : e.ah.length + e.be.length ≤ 8
def Ent.L (e : Ent) : List Nat := (if e.neg = true then [45] else []) ++ e.ah ++ (if e.pt = true then 46 :: e.be else [])
def Ent.val (e : Ent) : Int := if e.neg = true then -((digitsVal (e.ah ++ e.be) : Nat) : Int) else ((digitsVal (e.ah ++ e.be) : Nat) : Int)
def Ent.num (e : Ent) : Int × Int := tidyZ e.val (-(e.be.length : Int))
theorem dv_foldl : ∀ (l : List Nat) (a : Nat), AllDigits l → l.foldl (fun acc c => acc * 10 + (c - 48)) a < (a + 1) * 10 ^ l.length
  | [], a, _ => by simp
  | c :: l, a, h => by
    have hc := h c List.mem_cons_self
    have ih := dv_foldl l (a * 10 + (c - 48)) fun d hd => h d (List.mem_cons_of_mem _ hd)
    rw [List.foldl_cons, List.length_cons]
    refine Nat.lt_of_lt_of_le ih ?_
    rw [Nat.pow_succ, Nat.mul_comm (10 ^ l.length) 10, ← Nat.mul_assoc]
    exact Nat.mul_le_mul_right _ (by omega)
theorem dv_lt {l : List Nat} (h : AllDigits l) : digitsVal l < 10 ^ l.length := by
  have := dv_foldl l 0 h
  simpa [digitsVal] using this
theorem AllDigits.app {a b : List Nat} (ha : AllDigits a) (hb : AllDigits b) : AllDigits (a ++ b) := fun c hc => by
  rcases List.mem_append.mp hc with h | h
  · exact ha c h
  · exact hb c h
theorem dig_no {c : Nat} {l : List Nat} (h : AllDigits l) (hc : c < 48 ∨ 57 < c) : c ∉ l := fun z => by
  have := h c z
  omega
theorem met_ok {G : D → List D → Option D} {x : Str} {ds : List D} {f : Rho → Res D} {g : Rho → Res (List D)} {ρ : Rho} (h1 : f ρ = .ok (.str x)) (h2 : g ρ = .ok ds) : met G f g ρ = ofO (G (.str x) ds) := by
  unfold met
  rw [h1]
  show (g ρ).bind _ = _
  rw [h2]
  rfl
theorem part_S {l : List Nat} {c : Nat} (h : l.length ≤ 1000) : partD (.str (S l)) [.str (S [c])] = some (.tup [.str (Txt.partition (S l) (S [c])).1, .str (Txt.partition (S l) (S [c])).2.1, .str (Txt.partition (S l) (S [c])).2.2]) := by
  show (if ((S [c]).length == 0) = false ∧ (S l).length ≤ sizeLine then some (D.tup [.str (Txt.partition (S l) (S [c])).1, .str (Txt.partition (S l) (S [c])).2.1, .str (Txt.partition (S l) (S [c])).2.2]) else none) = _
  rw [if_pos ⟨rfl, by rw [S_len, sizeLine_eq]; omega⟩]
theorem ent_len {e : Ent} (h : EntOk e) : e.L.length ≤ 10 := by
  unfold Ent.L
  have := h.len
  rw [List.length_append, List.length_append]
  split <;> split <;> simp <;> omega
theorem int_neg {l : List Nat} (h : AllDigits l) (h1 : l ≠ []) (h2 : l.length ≤ 600) : intD [.str (S (45 :: l))] = some (.int (-((digitsVal l : Nat) : Int))) := by
  show (if (S (45 :: l)).length ≤ 640 then (PySem.intText? (S (45 :: l))).map D.int else none) = _
  rw [if_pos (by rw [S_len, List.length_cons]; omega), PySem.intText_neg (cs := l) (by rw [S_tl]) h h1 (by rw [S_len, List.length_cons]; omega)]
  rfl
theorem int_dig {l : List Nat} (h : AllDigits l) (h1 : l ≠ []) (h2 : l.length ≤ 600) : intD [.str (S l)] = some (.int ((digitsVal l : Nat) : Int)) :=
  int_digits (by rw [S_tl]; exact h) (by rw [S_tl]; exact h1) (by rw [S_tl]; omega) (by rw [S_tl])
theorem ent_int {e : Ent} (h : EntOk e) : intD [.str (S ((if e.neg = true then [45] else []) ++ e.ah ++ e.be))] = some (.int e.val) := by
  have hd := AllDigits.app h.a h.b
  have hn : e.ah ++ e.be ≠ [] := by
    intro z
    exact h.ne (List.append_eq_nil_iff.mp z).1
  have hl : (e.ah ++ e.be).length ≤ 600 := by rw [List.length_append]; have := h.len; omega
  unfold Ent.val
  cases e.neg with
  | false =>
    show intD [.str (S ([] ++ e.ah ++ e.be))] = _
    rw [List.nil_append]
    exact int_dig hd hn hl
  | true =>
    show intD [.str (S (45 :: (e.ah ++ e.be)))] = _
    exact int_neg hd hn hl
theorem val_lt {e : Ent} (h : EntOk e) : e.val.natAbs < 10 ^ 8 := by
  have d := dv_lt (AllDigits.app h.a h.b)
  have p := pow10_le (show (e.ah ++ e.be).length ≤ 8 by rw [List.length_append]; exact h.len)
  unfold Ent.val
  split <;> omega
theorem ent_ok {e : Ent} (h : EntOk e) : NumOk e.num.1 e.num.2 := tidy_ok (val_lt h) (by have := h.len; omega) (by omega)
theorem ent_vl (e : Ent) : vl e.num = vl (e.val, -(e.be.length : Int)) := tidy_vl _ _
theorem ent_exact {e : Ent} (h : EntOk e) : d_exact [.int e.val, .int (10 ^ e.be.length), .str "even"] = .ok (numD e.num) := by
  have hl := h.len
  have x := x_exact .even (u := e.val) (l := 10 ^ e.be.length) (pow_ne _) (Nat.lt_of_lt_of_le (val_lt h) (pow10_le (by decide))) (by rw [pow_z]; exact Nat.pow_lt_pow_right (by decide) (by omega))
  have f := frac_val e.val (-(e.be.length : Int))
  rw [show (-(e.be.length : Int)).toNat = 0 by omega, Int.pow_zero, Int.mul_one, show (-(-(e.be.length : Int))).toNat = e.be.length by omega] at f
  rw [ex_fix .even (a := e.num.1) (b := e.num.2) (pow_ne _) (ent_ok h) (f.trans (ent_vl e).symm)] at x
  exact x
theorem x_toldby {e : Ent} (h : EntOk e) : d_told_by [.str (S e.L)] = .ok (numD e.num) := by
  have el := ent_len h
  have hl := h.len
  have sg : (46 : Nat) ∉ (if e.neg = true then [45] else []) ++ e.ah := by
    intro z
    rcases List.mem_append.mp z with q | q
    · split at q <;> simp at q
    · exact dig_no h.a (.inl (by decide)) q
  have hp : Txt.partition (S e.L) (S [46]) = (S ((if e.neg = true then [45] else []) ++ e.ah), (if e.pt = true then S [46] else S []), S e.be) := by
    unfold Ent.L
    cases hpt : e.pt with
    | false =>
      have be0 := h.np hpt
      rw [be0]
      simp only [Bool.false_eq_true, if_false, List.append_nil]
      exact part_none sg
    | true =>
      simp only [if_true]
      exact part_some sg
  have e1 := part_S (l := e.L) (c := 46) (by omega)
  rw [hp] at e1
  have mt : met partD (var 0) (acons (con (.str ".")) anil) [.z (.str (S e.L)), .u, .u, .u] = .ok (.tup [.str (S ((if e.neg = true then [45] else []) ++ e.ah)), .str (if e.pt = true then S [46] else S []), .str (S e.be)]) := by
    rw [met_ok (x := S e.L) (ds := [.str (S [46])]) rfl rfl, e1]
    rfl
  have ln : ((if e.neg = true then [45] else []) ++ e.ah).length ≤ 10 := by
    have : ((if e.neg = true then [45] else []) ++ e.ah).length ≤ e.L.length := by unfold Ent.L; rw [List.length_append (as := _ ++ _)]; omega
    omega
  have a1 := add_S (a := (if e.neg = true then [45] else []) ++ e.ah) (b := e.be) (by omega)
  have a2 := ent_int h
  have a3 := len_S (a := e.be) (by omega)
  have a4 := x_tenN (n := e.be.length) (by omega)
  have a5 := ent_exact h
  simp?! [v_told_by, g_told_by, t1_told_by, mt, a1, a2, a3, a4, a5]
/-! keys and states -/
theorem finR_sr {r : Res D} {ρ : Rho} {t : Rho → SR} : finR (seqR (retR r ρ) t) = r := by cases r <;> rfl
inductive Dd where | plus | minus | times | over
  deriving DecidableEq
inductive Ky where | fig (i : Fin 10) | dot | sign | enter | dd (w : Dd) | root | swap | roll | last | clear | put (i : Fin 10) | get (i : Fin 10)
  deriving DecidableEq
def Dd.s : Dd → Str
  | .plus => "plus" | .minus => "minus" | .times => "times" | .over => "over"
def Ky.s : Ky → Str
  | .fig i => S [48 + i.val] | .dot => "." | .sign => "sign" | .enter => "enter" | .dd w => w.s | .root => "root" | .swap => "swap" | .roll => "roll" | .last => "last" | .clear => "clear" | .put i => S [112, 117, 116, 48 + i.val] | .get i => S [103, 101, 116, 48 + i.val]
theorem fin10 (i : Fin 10) : i = 0 ∨ i = 1 ∨ i = 2 ∨ i = 3 ∨ i = 4 ∨ i = 5 ∨ i = 6 ∨ i = 7 ∨ i = 8 ∨ i = 9 := by revert i; decide
structure Sta where
  m : Mn
  x : Int × Int
  y : Int × Int
  z : Int × Int
  t : Int × Int
  l : Int × Int
  bx : List (Int × Int)
  en : Option Ent
  lf : Bool
  od : Option Bool
def enD : Option Ent → D
  | none => .non
  | some e => .str (S e.L)
def odD : Option Bool → D
  | none => .non
  | some false => .str "deed"
  | some true => .str "great"
def Sta.D (s : Sta) : D := .tup [.str s.m.s, .tup [numD s.x, numD s.y, numD s.z, numD s.t], numD s.l, .tup (s.bx.map numD), enD s.en, .bl s.lf, odD s.od]
abbrev NO (s : Int × Int) : Prop := NumOk s.1 s.2
structure Sta.Ok (s : Sta) : Prop where
  x : NO s.x
  y : NO s.y
  z : NO s.z
  t : NO s.t
  l : NO s.l
  bl : s.bx.length = 10
  b : ∀ n ∈ s.bx, NO n
  e : ∀ e, s.en = some e → EntOk e
def rootZ (m : Mn) (s : Int × Int) : Int × Int := match d_root [numD s, .str m.s] with
  | .ok (.tup [.int a, .int b]) => (a, b)
  | _ => (0, 0)
def ddV : Dd → Rat → Rat → Rat
  | .plus, y, x => y + x | .minus, y, x => y - x | .times, y, x => y * x | .over, y, x => y / x
def entK : Option Ent → Ky → Ent
  | none, .dot => ⟨false, [48], true, []⟩
  | none, .fig i => ⟨false, [48 + i.val], false, []⟩
  | some e, .dot => { e with pt := true }
  | some e, .fig i => if e.ah.length + e.be.length < 8 then (if e.pt = true then { e with be := e.be ++ [48 + i.val] } else { e with ah := e.ah ++ [48 + i.val] }) else e
  | some e, _ => e
  | none, _ => ⟨false, [48], false, []⟩
def typeZ (s : Sta) (k : Ky) : Sta :=
  let s := if s.en.isNone && s.lf then { s with y := s.x, z := s.y, t := s.z } else s
  { s with x := (entK s.en k).num, en := some (entK s.en k) }
def deedZ (s : Sta) (w : Dd) : Sta :=
  if w = .over ∧ s.x.1 = 0 then { s with en := none, od := some false } else match exV s.m (ddV w (vl s.y) (vl s.x)) with
    | none => { s with en := none, od := some true }
    | some r => { s with x := r, y := s.z, z := s.t, l := s.x, en := none, lf := true }
def signZ (s : Sta) : Sta := match s.en with
  | none => { s with x := neg1 s.x, lf := true }
  | some e => { s with x := ({ e with neg := !e.neg } : Ent).num, en := some { e with neg := !e.neg } }
def pushZ (s : Sta) (n : Int × Int) : Sta := if s.lf = true then { s with x := n, y := s.x, z := s.y, t := s.z, en := none, lf := true } else { s with x := n, en := none, lf := true }
def pressZ (s : Sta) (k : Ky) : Sta := match s.od with
  | some _ => if k = .clear then { s with en := none, lf := false, od := none } else s
  | none => match k with
    | .fig i => typeZ s (.fig i)
    | .dot => typeZ s .dot
    | .sign => signZ s
    | .enter => { s with y := s.x, z := s.y, t := s.z, en := none, lf := false }
    | .dd w => deedZ s w
    | .root => if s.x.1 < 0 then { s with en := none, od := some false } else { s with x := rootZ s.m s.x, l := s.x, en := none, lf := true }
    | .swap => { s with x := s.y, y := s.x, en := none, lf := true }
    | .roll => { s with x := s.y, y := s.z, z := s.t, t := s.x, en := none, lf := true }
    | .last => pushZ s s.l
    | .clear => { s with x := (0, 0), en := none, lf := false }
    | .put i => { s with bx := s.bx.set i.val s.x, en := none, lf := true }
    | .get i => pushZ s (s.bx.getD i.val (0, 0))
/-! the keys that look at no text and no value -/
section
variable {m l B en x y z t b0 b1 b2 b3 b4 b5 b6 b7 b8 b9 P lf : D}
theorem kp_swap {f : Bool} : d_pressed [.tup [m, .tup [x, y, z, t], l, B, en, .bl f, .non], .str "swap"] = .ok (.tup [m, .tup [y, x, z, t], l, B, .non, .bl true, .non]) := by kernel_rfl
theorem kp_roll {f : Bool} : d_pressed [.tup [m, .tup [x, y, z, t], l, B, en, .bl f, .non], .str "roll"] = .ok (.tup [m, .tup [y, z, t, x], l, B, .non, .bl true, .non]) := by kernel_rfl
theorem kp_enter {f : Bool} : d_pressed [.tup [m, .tup [x, y, z, t], l, B, en, .bl f, .non], .str "enter"] = .ok (.tup [m, .tup [x, x, y, z], l, B, .non, .bl false, .non]) := by kernel_rfl
theorem kp_clear {f : Bool} : d_pressed [.tup [m, .tup [x, y, z, t], l, B, en, .bl f, .non], .str "clear"] = .ok (.tup [m, .tup [.tup [.int 0, .int 0], y, z, t], l, B, .non, .bl false, .non]) := by kernel_rfl
theorem kp_last1 : d_pressed [.tup [m, .tup [x, y, z, t], l, B, en, .bl true, .non], .str "last"] = .ok (.tup [m, .tup [l, x, y, z], l, B, .non, .bl true, .non]) := by kernel_rfl
theorem kp_last0 : d_pressed [.tup [m, .tup [x, y, z, t], l, B, en, .bl false, .non], .str "last"] = .ok (.tup [m, .tup [l, y, z, t], l, B, .non, .bl true, .non]) := by kernel_rfl
theorem kp_put {f : Bool} (i : Fin 10) : d_pressed [.tup [m, .tup [x, y, z, t], l, .tup [b0, b1, b2, b3, b4, b5, b6, b7, b8, b9], en, .bl f, .non], .str (Ky.put i).s] = .ok (.tup [m, .tup [x, y, z, t], l, .tup ([b0, b1, b2, b3, b4, b5, b6, b7, b8, b9].set i.val x), .non, .bl true, .non]) := by
  rcases fin10 i with e | e | e | e | e | e | e | e | e | e <;> subst e <;> kernel_rfl
theorem kp_get1 (i : Fin 10) : d_pressed [.tup [m, .tup [x, y, z, t], l, .tup [b0, b1, b2, b3, b4, b5, b6, b7, b8, b9], en, .bl true, .non], .str (Ky.get i).s] = .ok (.tup [m, .tup [[b0, b1, b2, b3, b4, b5, b6, b7, b8, b9].getD i.val .non, x, y, z], l, .tup [b0, b1, b2, b3, b4, b5, b6, b7, b8, b9], .non, .bl true, .non]) := by
  rcases fin10 i with e | e | e | e | e | e | e | e | e | e <;> subst e <;> kernel_rfl
theorem kp_get0 (i : Fin 10) : d_pressed [.tup [m, .tup [x, y, z, t], l, .tup [b0, b1, b2, b3, b4, b5, b6, b7, b8, b9], en, .bl false, .non], .str (Ky.get i).s] = .ok (.tup [m, .tup [[b0, b1, b2, b3, b4, b5, b6, b7, b8, b9].getD i.val .non, y, z, t], l, .tup [b0, b1, b2, b3, b4, b5, b6, b7, b8, b9], .non, .bl true, .non]) := by
  rcases fin10 i with e | e | e | e | e | e | e | e | e | e <;> subst e <;> kernel_rfl
theorem kp_odd {o : Str} (k : Ky) (h : k ≠ .clear) : d_pressed [.tup [m, P, l, B, en, lf, .str o], .str k.s] = .ok (.tup [m, P, l, B, en, lf, .str o]) := by
  cases k with
  | fig i => rcases fin10 i with e | e | e | e | e | e | e | e | e | e <;> subst e <;> kernel_rfl
  | put i => rcases fin10 i with e | e | e | e | e | e | e | e | e | e <;> subst e <;> kernel_rfl
  | get i => rcases fin10 i with e | e | e | e | e | e | e | e | e | e <;> subst e <;> kernel_rfl
  | dd w => cases w <;> kernel_rfl
  | clear => exact absurd rfl h
  | _ => kernel_rfl
theorem kp_oddc {o : Str} : d_pressed [.tup [m, P, l, B, en, lf, .str o], .str "clear"] = .ok (.tup [m, P, l, B, .non, .bl false, .non]) := by kernel_rfl
theorem kp_sign0 {a b : Int} {f : Bool} : d_pressed [.tup [m, .tup [.tup [.int a, .int b], y, z, t], l, B, .non, .bl f, .non], .str "sign"] = .ok (.tup [m, .tup [.tup [.int (-a), .int b], y, z, t], l, B, .non, .bl true, .non]) := by kernel_rfl
/-- a sign with an entry -/
theorem kp_sign1 {e : Ent} (h : EntOk e) {f : D} : d_pressed [.tup [m, .tup [x, y, z, t], l, B, .str (S e.L), f, .non], .str "sign"] = .ok (.tup [m, .tup [numD ({ e with neg := !e.neg } : Ent).num, y, z, t], l, B, .str (S ({ e with neg := !e.neg } : Ent).L), f, .non]) := by
  have ok : d_is_key [.str "sign"] = .ok (.bl true) := by kernel_rfl
  have e1 : isNotN .non .non = some (.bl false) := rfl
  have e2 : (Str.ofString "sign" == Str.ofString ".") = false := by decide +kernel
  have e3 : inD (.str (Str.ofString "sign")) (.str "0123456789") = some (.bl false) := by kernel_rfl
  have key : d_pressed [.tup [m, .tup [x, y, z, t], l, B, .str (S e.L), f, .non], .str "sign"] = d_signed [.tup [m, .tup [x, y, z, t], l, B, .str (S e.L), f, .non]] := by
    simp?! [v_pressed, g_pressed, t1_pressed, t2_pressed, t3_pressed, ok, ix_t6, e1, e2, e3, beq_self_eq_true, finR_ret, finR_sr]
  rw [key]
  have h2 : EntOk ({ e with neg := !e.neg } : Ent) := ⟨h.a, h.b, h.ne, h.np, h.len⟩
  have tb := x_toldby h2
  have n1 : isN (.str (S e.L)) .non = some (.bl false) := rfl
  have a7 : asgR (.ok (.tup [m, .tup [x, y, z, t], l, B, .str (S e.L), f, .non])) [.z (.tup [m, .tup [x, y, z, t], l, B, .str (S e.L), f, .non]), .u, .u, .u, .u, .u, .u, .u] (gt 7 (gsc (gn 1) (gsc (gn 2) (gsc (gn 3) (gsc (gn 4) (gsc (gn 5) (gsc (gn 6) (gsc (gn 7) gsn)))))))) = .nx [.z (.tup [m, .tup [x, y, z, t], l, B, .str (S e.L), f, .non]), .z m, .z (.tup [x, y, z, t]), .z l, .z B, .z (.str (S e.L)), .z f, .z .non] := rfl
  have st : startsD (.str (S e.L)) [.str "-"] = some (.bl e.neg) := by
    show some (D.bl (Txt.startswith (S e.L) (S [45]))) = _
    have : Txt.startswith (S e.L) (S [45]) = e.neg := by
      unfold Txt.startswith
      have so := sub_one (l := e.L) (c := 45) (i := 0)
      have hg : (e.L[0]? = some 45) ↔ e.neg = true := by
        unfold Ent.L
        cases hn : e.neg with
        | true => simp
        | false =>
          obtain ⟨c, r, hc⟩ := List.exists_cons_of_ne_nil h.ne
          have := h.a c (by rw [hc]; exact List.mem_cons_self)
          simp [hc]
          omega
      rw [hg] at so
      cases hn : e.neg with
      | true =>
        have := so.mpr hn
        rw [decide_eq_true this.1, this.2]
        rfl
      | false =>
        rw [hn] at so
        by_cases q : 0 + (S [45]).length ≤ (S e.L).length
        · have : Builtin.Str.subAt (S e.L) (S [45]) 0 = false := by
            cases w : Builtin.Str.subAt (S e.L) (S [45]) 0 with
            | false => rfl
            | true => exact absurd (so.mp ⟨q, w⟩) (by decide)
          rw [this, Bool.and_false]
        · rw [decide_eq_false q, Bool.false_and]
    rw [this]
  have el := ent_len h
  have s1 : slD (.tup [x, y, z, t]) (some 1) none = some (.tup [y, z, t]) := by kernel_rfl
  have ad : ∀ n : D, addD (.tup [n]) (.tup [y, z, t]) = some (.tup [n, y, z, t]) := fun n => by kernel_rfl
  have fin : ∀ e' : Ent, EntOk e' → finR (t3_signed [.z (.tup [m, .tup [x, y, z, t], l, B, .str (S e.L), f, .non]), .z m, .z (.tup [x, y, z, t]), .z l, .z B, .z (.str (S e'.L)), .z f, .z .non]) = .ok (.tup [m, .tup [numD e'.num, y, z, t], l, B, .str (S e'.L), f, .non]) := fun e' h' => by
    simp?! [t3_signed, x_toldby h', s1, ad]
  cases hn : e.neg with
  | true =>
    rw [hn] at st
    have c1 := sl_lo1 (l := e.L) (by omega) (by unfold Ent.L; rw [hn]; simp)
    have c2 : e.L.drop 1 = ({ e with neg := false } : Ent).L := by unfold Ent.L; rw [hn]; simp
    rw [c2] at c1
    have ok2 : EntOk ({ e with neg := false } : Ent) := ⟨h.a, h.b, h.ne, h.np, h.len⟩
    have := fin _ ok2
    simp?! [v_signed, g_signed, t1_signed, t2_signed, a7, n1, met_def, metR_ok, st, c1, this, Bool.not_true]
  | false =>
    rw [hn] at st
    have c1 := add_S (a := [45]) (b := e.L) (by simp; omega)
    have c2 : [45] ++ e.L = ({ e with neg := true } : Ent).L := by unfold Ent.L; rw [hn]; simp
    rw [c2, ← minus_S] at c1
    have ok2 : EntOk ({ e with neg := true } : Ent) := ⟨h.a, h.b, h.ne, h.np, h.len⟩
    have := fin _ ok2
    simp?! [v_signed, g_signed, t1_signed, t2_signed, a7, n1, met_def, metR_ok, st, c1, this, Bool.not_false]
end
/-! figures and points -/
theorem kd_is (k : Ky) : d_is_key [.str k.s] = .ok (.bl true) := by
  cases k with
  | fig i => rcases fin10 i with e | e | e | e | e | e | e | e | e | e <;> subst e <;> kernel_rfl
  | put i => rcases fin10 i with e | e | e | e | e | e | e | e | e | e <;> subst e <;> kernel_rfl
  | get i => rcases fin10 i with e | e | e | e | e | e | e | e | e | e <;> subst e <;> kernel_rfl
  | dd w => cases w <;> kernel_rfl
  | _ => kernel_rfl
theorem fig_no (i : Fin 10) : (S [48 + i.val] == Str.ofString ".") = false := by revert i; decide +kernel
theorem fig_in (i : Fin 10) : inD (.str (S [48 + i.val])) (.str "0123456789") = some (.bl true) := by
  rcases fin10 i with e | e | e | e | e | e | e | e | e | e <;> subst e <;> kernel_rfl
section
variable {m l B x y z t f : D} {en : D}
theorem kp_fig {i : Fin 10} : d_pressed [.tup [m, .tup [x, y, z, t], l, B, en, f, .non], .str (Ky.fig i).s] = d_typed [.tup [m, .tup [x, y, z, t], l, B, en, f, .non], .str (Ky.fig i).s] := by
  have ok := kd_is (.fig i)
  have e1 : isNotN .non .non = some (.bl false) := rfl
  have e2 := fig_no i
  have e3 := fig_in i
  have es : (Ky.fig i).s = S [48 + i.val] := rfl
  rw [es] at ok ⊢
  simp?! [v_pressed, g_pressed, t1_pressed, t2_pressed, ok, ix_t6, e1, e2, e3, finR_ret, finR_sr]
theorem kp_dot : d_pressed [.tup [m, .tup [x, y, z, t], l, B, en, f, .non], .str "."] = d_typed [.tup [m, .tup [x, y, z, t], l, B, en, f, .non], .str "."] := by
  have ok : d_is_key [.str "."] = .ok (.bl true) := kd_is .dot
  have e1 : isNotN .non .non = some (.bl false) := rfl
  simp?! [v_pressed, g_pressed, t1_pressed, t2_pressed, ok, ix_t6, e1, beq_self_eq_true, finR_ret, finR_sr]
theorem due1 : d_if_due [.tup [x, y, z, t], .bl true] = .ok (.tup [x, x, y, z]) := by kernel_rfl
theorem due0 : d_if_due [.tup [x, y, z, t], .bl false] = .ok (.tup [x, y, z, t]) := by kernel_rfl
theorem ty_7 {k : D} : asgR (.ok (.tup [m, .tup [x, y, z, t], l, B, en, f, .non])) [.z (.tup [m, .tup [x, y, z, t], l, B, en, f, .non]), .z k, .u, .u, .u, .u, .u, .u, .u, .u] (gt 7 (gsc (gn 2) (gsc (gn 3) (gsc (gn 4) (gsc (gn 5) (gsc (gn 6) (gsc (gn 7) (gsc (gn 8) gsn)))))))) = .nx [.z (.tup [m, .tup [x, y, z, t], l, B, en, f, .non]), .z k, .z m, .z (.tup [x, y, z, t]), .z l, .z B, .z en, .z f, .z .non, .u] := rfl
/-- the end of typed -/
theorem ty_end {st k : D} {e : Ent} {w : En} (h : EntOk e) : finR (t2_typed [st', .z k, .z m, .z (.tup [x, y, z, t]), .z l, .z B, .z (.str (S e.L)), .z f, .z .non, w]) = .ok (.tup [m, .tup [numD e.num, y, z, t], l, B, .str (S e.L), f, .non]) := by
  have s1 : slD (.tup [x, y, z, t]) (some 1) none = some (.tup [y, z, t]) := by kernel_rfl
  have ad : ∀ n : D, addD (.tup [n]) (.tup [y, z, t]) = some (.tup [n, y, z, t]) := fun n => by kernel_rfl
  simp?! [t2_typed, x_toldby h, s1, ad]
theorem nn : isN .non .non = some (.bl true) := rfl
theorem ns {s : Str} : isN (.str s) .non = some (.bl false) := rfl
theorem dget_fig {i : Fin 10} {ρ : Rho} (h : var 1 ρ = .ok (.str (S [48 + i.val]))) : dgetD ["."] (acons (con (.str "0.")) anil) (var 1) (var 1) ρ = .ok (.str (S [48 + i.val])) := by
  unfold dgetD
  rw [h]
  rcases fin10 i with e | e | e | e | e | e | e | e | e | e <;> subst e <;> kernel_rfl
theorem dget_dot {ρ : Rho} (h : var 1 ρ = .ok (.str ".")) : dgetD ["."] (acons (con (.str "0.")) anil) (var 1) (var 1) ρ = .ok (.str (S [48, 46])) := by
  unfold dgetD
  rw [h]
  kernel_rfl
/-- typed, with no entry -/
theorem ty_none {k : Ky} {b : Bool} (hk : k = .dot ∨ ∃ i, k = .fig i) : d_typed [.tup [m, .tup [x, y, z, t], l, B, .non, .bl b, .non], .str k.s] = .ok (.tup [m, (if b = true then .tup [numD (entK none k).num, x, y, z] else .tup [numD (entK none k).num, y, z, t]), l, B, .str (S (entK none k).L), .bl b, .non]) := by
  have key : ∀ ρ : Rho, var 1 ρ = .ok (.str k.s) → dgetD ["."] (acons (con (.str "0.")) anil) (var 1) (var 1) ρ = .ok (.str (S (entK none k).L)) := by
    rcases hk with rfl | ⟨i, rfl⟩
    · exact fun ρ h => dget_dot h
    · exact fun ρ h => dget_fig h
  have ok : EntOk (entK none k) := by
    rcases hk with rfl | ⟨i, rfl⟩
    · exact ⟨fun c hc => by rcases List.mem_singleton.mp hc with rfl; omega, fun _ h => (by cases h), by decide, fun _ => rfl, by decide⟩
    · exact ⟨fun c hc => by rcases List.mem_singleton.mp hc with rfl; have := i.isLt; omega, fun _ h => (by cases h), by simp [entK], fun _ => rfl, by simp [entK]⟩
  generalize entK none k = e at *
  generalize k.s = ks at *
  cases b with
  | true =>
    have k1 := key [.z (.tup [m, .tup [x, y, z, t], l, B, .non, .bl true, .non]), .z (.str ks), .z m, .z (.tup [x, x, y, z]), .z l, .z B, .z .non, .z (.bl true), .z .non, .u] rfl
    have en := ty_end (m := m) (x := x) (y := x) (z := y) (t := z) (l := l) (B := B) (f := .bl true) (st' := .z (.tup [m, .tup [x, y, z, t], l, B, .non, .bl true, .non])) (k := .str ks) (w := .u) (st := .non) ok
    simp?! [v_typed, g_typed, t1_typed, ty_7, nn, due1, k1, en, if_true]
  | false =>
    have k1 := key [.z (.tup [m, .tup [x, y, z, t], l, B, .non, .bl false, .non]), .z (.str ks), .z m, .z (.tup [x, y, z, t]), .z l, .z B, .z .non, .z (.bl false), .z .non, .u] rfl
    have en := ty_end (m := m) (x := x) (y := y) (z := z) (t := t) (l := l) (B := B) (f := .bl false) (st' := .z (.tup [m, .tup [x, y, z, t], l, B, .non, .bl false, .non])) (k := .str ks) (w := .u) (st := .non) ok
    simp?! [v_typed, g_typed, t1_typed, ty_7, nn, due0, k1, en, if_false, Bool.false_eq_true]
/-- the figures of an entry are counted -/
theorem dig_in (c : Nat) : hasS (S [c]) (Str.ofString "0123456789") = decide (48 ≤ c ∧ c ≤ 57) := by
  have h0 : hasS (S [c]) (Str.ofString "0123456789") = decide (c ∈ [48, 49, 50, 51, 52, 53, 54, 55, 56, 57]) := by
    unfold hasS
    rw [if_pos (show (S [c]).cps.size = 1 from rfl)]
    rfl
  rw [h0]
  refine decide_eq_decide.mpr ?_
  simp
  omega
theorem cnt_comp {ρ : Rho} {w : En} (hw : ρ.length = 9) : ∀ (cs : List Nat), compD (gn 9) (tst (bop inD (var 9) (con (.str "0123456789")))) e1_typed (ρ ++ [w]) (cs.map fun c => D.str (S [c])) = .ok ((cs.filter fun c => decide (48 ≤ c ∧ c ≤ 57)).map fun c => D.str (S [c]))
  | [] => rfl
  | c :: cs => by
    have ih := cnt_comp (w := w) hw cs
    have hg : gn 9 (ρ ++ [w]) (.str (S [c])) = some (ρ ++ [.z (.str (S [c]))]) := by
      unfold gn
      simp only [List.set_append, hw]
      rw [if_neg (by decide)]
      rfl
    have hv : var 9 (ρ ++ [.z (.str (S [c]))]) = .ok (.str (S [c])) := by
      unfold var
      rw [List.getElem?_append_right (by omega), hw]
      rfl
    have ht : tst (bop inD (var 9) (con (.str "0123456789"))) (ρ ++ [.z (.str (S [c]))]) = .ok (decide (48 ≤ c ∧ c ≤ 57)) := by
      rw [tst_def, bin_def, hv, con_def, app2_ok]
      show tstR (ofO ((some (hasS (S [c]) (Str.ofString "0123456789"))).map D.bl)) = _
      rw [dig_in]
      rfl
    rw [List.map_cons]
    by_cases q : 48 ≤ c ∧ c ≤ 57
    · rw [decide_eq_true q] at ht
      rw [comp_t hg ht (show e1_typed _ = .ok (.str (S [c])) from hv) ih, List.filter_cons, if_pos (decide_eq_true q)]
      rfl
    · rw [decide_eq_false q] at ht
      rw [comp_f hg ht, ih, List.filter_cons, if_neg (by simpa using q)]
theorem its_S {f : Rho → Res D} {l : List Nat} {ρ : Rho} (h : f ρ = .ok (.str (S l))) : its f ρ = .ok (l.map fun c => D.str (S [c])) := by
  unfold its
  rw [h]
  show Res.ok (((S l).cps.toList.map fun c => D.str ⟨#[c]⟩)) = _
  rw [S_tl]
  rfl
theorem filt_dig : ∀ {l : List Nat}, AllDigits l → (l.filter fun c => decide (48 ≤ c ∧ c ≤ 57)) = l
  | [], _ => rfl
  | c :: l, h => by
    rw [List.filter_cons, if_pos (decide_eq_true (h c List.mem_cons_self)), filt_dig fun d hd => h d (List.mem_cons_of_mem _ hd)]
theorem ent_count {e : Ent} (h : EntOk e) : ((e.L.filter fun c => decide (48 ≤ c ∧ c ≤ 57))).length = e.ah.length + e.be.length := by
  unfold Ent.L
  rw [List.filter_append, List.filter_append, filt_dig h.a]
  have hb := filt_dig h.b
  cases hp : e.pt with
  | false =>
    have be0 := h.np hp
    cases hn : e.neg <;> simp [be0]
  | true => cases hn : e.neg <;> simp [List.filter_cons, hb] <;> exact h.b
theorem ent_dot {e : Ent} (h : EntOk e) : hasS (S [46]) (S e.L) = e.pt := by
  unfold hasS
  rw [if_pos (show (S [46]).cps.size = 1 from rfl), S_tl]
  have : (46 ∈ e.L) ↔ e.pt = true := by
    unfold Ent.L
    have h1 := dig_no h.a (c := 46) (.inl (by decide))
    cases hn : e.neg <;> cases hp : e.pt <;> simp [h1]
  cases hp : e.pt with
  | true => exact decide_eq_true (this.mpr hp)
  | false =>
    refine decide_eq_false fun z => ?_
    have z : 46 ∈ e.L := z
    rw [this, hp] at z
    cases z
theorem entK_ok {e : Ent} (h : EntOk e) (k : Ky) : EntOk (entK (some e) k) := by
  cases k with
  | dot => exact ⟨h.a, h.b, h.ne, fun z => (by cases z), h.len⟩
  | fig i =>
    unfold entK
    simp only
    have hi := i.isLt
    have hd : AllDigits [48 + i.val] := fun c hc => by rcases List.mem_singleton.mp hc with rfl; omega
    split
    · split
      · rename_i q hp
        exact ⟨h.a, AllDigits.app h.b hd, h.ne, fun z => (by rw [hp] at z; cases z), by simp; omega⟩
      · rename_i q hp
        exact ⟨AllDigits.app h.a hd, h.b, by simp, h.np, by simp; omega⟩
    · exact h
  | _ => exact h
/-- typed, with an entry -/
theorem ty_some {e : Ent} (h : EntOk e) {k : Ky} (hk : k = .dot ∨ ∃ i, k = .fig i) : d_typed [.tup [m, .tup [x, y, z, t], l, B, .str (S e.L), f, .non], .str k.s] = .ok (.tup [m, .tup [numD (entK (some e) k).num, y, z, t], l, B, .str (S (entK (some e) k).L), f, .non]) := by
  have el := ent_len h
  have h2 := entK_ok h k
  have en := fun (ks : Str) (e' : Ent) (h' : EntOk e') => ty_end (m := m) (x := x) (y := y) (z := z) (t := t) (l := l) (B := B) (f := f) (st' := .z (.tup [m, .tup [x, y, z, t], l, B, .str (S e.L), f, .non])) (k := .str ks) (w := .u) (st := .non) h'
  rcases hk with rfl | ⟨i, rfl⟩
  · have n1 : niD (.str ".") (.str (S e.L)) = some (.bl (!e.pt)) := by
      show (some (hasS (S [46]) (S e.L))).map _ = _
      rw [ent_dot h]; rfl
    have ks : Ky.dot.s = Str.ofString "." := rfl
    have ed : entK (some e) .dot = { e with pt := true } := rfl
    rw [ed] at h2
    rw [ks, ed]
    cases hp : e.pt with
    | true =>
      have ee : ({ e with pt := true } : Ent) = e := by
        cases e
        simp only at hp
        rw [hp]
      rw [ee]
      rw [hp] at n1
      simp?! [v_typed, g_typed, t1_typed, ty_7, ns, beq_self_eq_true, n1, en _ e h]
    | false =>
      rw [hp] at n1
      have be0 := h.np hp
      have c1 := add_S (a := e.L) (b := [46]) (by simp; omega)
      have c2 : e.L ++ [46] = ({ e with pt := true } : Ent).L := by unfold Ent.L; rw [hp, be0]; simp
      rw [c2, ← dot_S] at c1
      simp?! [v_typed, g_typed, t1_typed, ty_7, ns, beq_self_eq_true, n1, c1, en _ _ h2]
  · have e2 := fig_no i
    have ks : (Ky.fig i).s = S [48 + i.val] := rfl
    rw [ks]
    have lc : lcD (its (var 6)) 9 (tst (bop inD (var 9) (con (.str "0123456789")))) e1_typed [.z (.tup [m, .tup [x, y, z, t], l, B, .str (S e.L), f, .non]), .z (.str (S [48 + i.val])), .z m, .z (.tup [x, y, z, t]), .z l, .z B, .z (.str (S e.L)), .z f, .z .non, .u] = .ok (.lst ((e.L.filter fun c => decide (48 ≤ c ∧ c ≤ 57)).map fun c => D.str (S [c]))) := by
      refine lc_eq (its_S rfl) (by rw [List.length_map]; omega) ?_
      exact cnt_comp (ρ := [.z (.tup [m, .tup [x, y, z, t], l, B, .str (S e.L), f, .non]), .z (.str (S [48 + i.val])), .z m, .z (.tup [x, y, z, t]), .z l, .z B, .z (.str (S e.L)), .z f, .z .non]) (w := .u) rfl e.L
    have ln : lenD [.lst ((e.L.filter fun c => decide (48 ≤ c ∧ c ≤ 57)).map fun c => D.str (S [c]))] = some (.int ((e.ah.length + e.be.length : Nat) : Int)) := by
      rw [len_l, List.length_map, ent_count h]
    by_cases q : e.ah.length + e.be.length < 8
    · have d1 : decide (((e.ah.length + e.be.length : Nat) : Int) < 8) = true := decide_eq_true (by omega)
      have c1 := add_S (a := e.L) (b := [48 + i.val]) (by simp; omega)
      have c2 : e.L ++ [48 + i.val] = (entK (some e) (.fig i)).L := by
        show _ = (if e.ah.length + e.be.length < 8 then (if e.pt = true then ({ e with be := e.be ++ [48 + i.val] } : Ent) else { e with ah := e.ah ++ [48 + i.val] }) else e).L
        rw [if_pos q]
        cases hp : e.pt with
        | true => unfold Ent.L; simp [hp]
        | false => have be0 := h.np hp; unfold Ent.L; simp [hp, be0]
      rw [c2] at c1
      simp?! [v_typed, g_typed, t1_typed, ty_7, ns, e2, lc, ln, d1, c1, en _ _ h2]
    · have d1 : decide (((e.ah.length + e.be.length : Nat) : Int) < 8) = false := decide_eq_false (by omega)
      have ee : entK (some e) (.fig i) = e := if_neg q
      rw [ee]
      simp?! [v_typed, g_typed, t1_typed, ty_7, ns, e2, lc, ln, d1, en _ e h]
end
/-! root -/
theorem wr_loop {w : Int} : ∀ (n : Nat) (lo hi : Int) (x : En), 0 ≤ lo → lo < hi → hi ≤ 1000000000000 → lo * lo ≤ w → w < hi * hi → hi - lo ≤ 2 ^ n → ∀ m, n < m →
    ∃ r x', 0 ≤ r ∧ r * r ≤ w ∧ w < (r + 1) * (r + 1) ∧ whileD c1_whole_root b2_whole_root m [.z (.int w), .z (.int lo), .z (.int hi), x] = .nx [.z (.int w), .z (.int r), .z (.int (r + 1)), x']
  | n, lo, hi, x, h0, h1, h2, h3, h4, h5, m, hm => by
    obtain ⟨m, rfl⟩ : ∃ k, m = k + 1 := ⟨m - 1, by omega⟩
    by_cases h : 1 < hi - lo
    · match n, h5, hm with
      | 0, h5, _ => 
        have : (2 : Int) ^ 0 = 1 := rfl
        omega
      | n + 1, h5, hm =>
        have e2 : (2 : Int) ^ (n + 1) = 2 ^ n * 2 := Int.pow_succ _ _
        have hc : c1_whole_root [.z (.int w), .z (.int lo), .z (.int hi), x] = .ok true := by simp?! [c1_whole_root, h]
        generalize hM : (lo + hi) / 2 = M
        have mm : mulD (.int M) (.int M) = some (.int (M * M)) := mul_l (by omega)
        by_cases hle : M * M ≤ w
        · have hb : b2_whole_root [.z (.int w), .z (.int lo), .z (.int hi), x] = .nx [.z (.int w), .z (.int M), .z (.int hi), .z (.int M)] := by simp?! [b2_whole_root, hM, mm, hle]
          obtain ⟨r, x', r1, r2, r3, r4⟩ := wr_loop n M hi (.z (.int M)) (by omega) (by omega) h2 hle h4 (by omega) m (by omega)
          exact ⟨r, x', r1, r2, r3, by rw [while_t hc hb, r4]⟩
        · have hd : decide (M * M ≤ w) = false := decide_eq_false hle
          have hb : b2_whole_root [.z (.int w), .z (.int lo), .z (.int hi), x] = .nx [.z (.int w), .z (.int lo), .z (.int M), .z (.int M)] := by simp?! [b2_whole_root, hM, mm, hd]
          obtain ⟨r, x', r1, r2, r3, r4⟩ := wr_loop n lo M (.z (.int M)) h0 (by omega) (by omega) h3 (by omega) (by omega) m (by omega)
          exact ⟨r, x', r1, r2, r3, by rw [while_t hc hb, r4]⟩
    · have hd : decide (1 < hi - lo) = false := decide_eq_false h
      have hc : c1_whole_root [.z (.int w), .z (.int lo), .z (.int hi), x] = .ok false := by simp?! [c1_whole_root, hd]
      have e : hi = lo + 1 := by omega
      subst e
      exact ⟨lo, x, h0, h3, h4, while_f hc⟩
theorem x_wroot {w : Int} (h0 : 0 < w) (h1 : w.natAbs < 10 ^ 17) : ∃ r, 0 ≤ r ∧ r * r ≤ w ∧ w < (r + 1) * (r + 1) ∧ d_whole_root [.int w] = .ok (.int r) := by
  have f0 := figs_pos w.natAbs
  have f1 := figs_le (by decide) h1
  have f2 := figs_lt w.natAbs
  have fg := x_figures (a := w) (Nat.lt_of_lt_of_le h1 (pow10_le (by decide)))
  generalize hk : ((figs w.natAbs : Int) + 1) / 2 + 1 = k at *
  have t1 := x_ten (k := k) (by omega) (by omega)
  have hb : (10 : Int) ^ k.toNat ≤ 1000000000000 := by
    have q : (10 : Nat) ^ k.toNat ≤ 10 ^ 12 := pow10_le (by omega)
    have c := cast10 k.toNat
    omega
  have hw : w < 10 ^ k.toNat * 10 ^ k.toNat := by
    have q : (10 : Nat) ^ figs w.natAbs ≤ 10 ^ (k.toNat + k.toNat) := pow10_le (by omega)
    have c := cast10 (k.toNat + k.toNat)
    rw [Int.pow_add] at c
    omega
  have hp := pow_ge1 k.toNat
  obtain ⟨r, x', r1, r2, r3, r4⟩ := wr_loop (w := w) 60 0 (10 ^ k.toNat) .u (by omega) (by omega) hb (by omega) hw (by
    have : (2 : Int) ^ 60 = 1152921504606846976 := by decide
    omega) 100000 (by decide)
  exact ⟨r, r1, r2, r3, by simp?! [v_whole_root, g_whole_root, t1_whole_root, t2_whole_root, t3_whole_root, fg, hk, t1, r4]⟩
theorem root_loop {o mm x y : En} : ∀ (n : Nat) (d p : Int), 0 < d → d < 10000000000000000 → 100000000000000 ≤ d * 100 ^ n → ∀ m, n < m →
    ∃ (k : Nat) (d' : Int), d' = d * 100 ^ k ∧ 100000000000000 ≤ d' ∧ d' < 10000000000000000 ∧ k ≤ n ∧ whileD c1_root b2_root m [o, mm, .z (.int d), .z (.int p), x, y] = .nx [o, mm, .z (.int d'), .z (.int (p - k)), x, y]
  | n, d, p, h0, h1, h2, m, hm => by
    obtain ⟨m, rfl⟩ : ∃ k, m = k + 1 := ⟨m - 1, by omega⟩
    have t14 : d_ten [.int (2 * 8 - 2)] = .ok (.int 100000000000000) := x_ten (k := 14) (by decide) (by decide)
    by_cases h : d < 100000000000000
    · match n, h2, hm with
      | 0, h2, _ =>
        have : (100 : Int) ^ 0 = 1 := rfl
        omega
      | n + 1, h2, hm =>
        have e2 : (100 : Int) ^ (n + 1) = 100 ^ n * 100 := Int.pow_succ _ _
        have e3 : d * 100 ^ (n + 1) = d * 100 * 100 ^ n := by rw [e2, Int.mul_comm (100 ^ n) 100, Int.mul_assoc]
        have hc : c1_root [o, mm, .z (.int d), .z (.int p), x, y] = .ok true := by simp?! [c1_root, t14, h]
        have hb : b2_root [o, mm, .z (.int d), .z (.int p), x, y] = .nx [o, mm, .z (.int (d * 100)), .z (.int (p - 1)), x, y] := by simp?! [b2_root]
        obtain ⟨k, d', k1, k2, k3, k4, k5⟩ := root_loop (o := o) (mm := mm) (x := x) (y := y) n (d * 100) (p - 1) (by omega) (by omega) (by omega) m (by omega)
        refine ⟨k + 1, d', ?_, k2, k3, by omega, ?_⟩
        · rw [k1, Int.pow_succ, Int.mul_comm (100 ^ k) 100, Int.mul_assoc]
        · rw [while_t hc hb, k5]
          have : p - 1 - (k : Int) = p - ((k + 1 : Nat) : Int) := by omega
          rw [this]
    · have hd : decide (d < 100000000000000) = false := decide_eq_false h
      have hc : c1_root [o, mm, .z (.int d), .z (.int p), x, y] = .ok false := by simp?! [c1_root, t14, hd]
      refine ⟨0, d, by simp, by omega, h1, by omega, ?_⟩
      rw [while_f hc]
      simp
/-- the root's figures -/
def rootW (h : Hw) (r d : Int) : Int := match h with
  | .more => if r * r < d then r + 1 else r
  | .nought => r
  | _ => if (2 * r + 1) * (2 * r + 1) < 4 * d then r + 1 else r
theorem in_h (h : Hw) : inD (.str h.s) (.tup [.str "even", .str "away"]) = some (.bl (decide (h = .even) || decide (h = .away))) := by cases h <;> rfl
theorem root_end (h : Hw) {o mm : En} {d r p : Int} (hr0 : 0 ≤ r) (hr : r < 1000000000) (hd : d < 10000000000000000) (hrd : 0 < r) : finR (t8_root [o, mm, .z (.int d), .z (.int p), .z (.int r), .z (.str h.s)]) = optR (fitZ h (rootW h r d) p false) := by
  have i1 := in_h h
  have e1 : (h.s == Str.ofString "more") = decide (h = .more) := by cases h <;> decide +kernel
  have m1 : mulD (.int r) (.int r) = some (.int (r * r)) := mul_l (by omega)
  have m2 : mulD (.int (2 * r + 1)) (.int (2 * r + 1)) = some (.int ((2 * r + 1) * (2 * r + 1))) := mul_l (by omega)
  have p2 : (10 : Nat) ^ 10 ≤ 10 ^ 450 := pow10_le (by decide)
  have f0 := x_fitted h (w := r) (p := p) (b := false) hrd (by omega)
  have f1 := x_fitted h (w := r + 1) (p := p) (b := false) (by omega) (by omega)
  cases h with
  | nought =>
    simp only [reduceCtorEq, decide_false, Bool.or_false] at i1 e1
    simp?! [t8_root, t9_root, t10_root, e1, i1, f0, finR_ret, rootW]
  | more =>
    simp only [reduceCtorEq, decide_false, decide_true, Bool.or_false] at i1 e1
    unfold rootW
    by_cases c : r * r < d
    · simp only [if_pos c]
      simp?! [t8_root, t9_root, t10_root, e1, i1, m1, c, f1, finR_ret]
    · have c' : decide (r * r < d) = false := decide_eq_false c
      simp only [if_neg c]
      simp?! [t8_root, t9_root, t10_root, e1, i1, m1, c', f0, finR_ret]
  | even =>
    simp only [reduceCtorEq, decide_false, decide_true, Bool.or_false] at i1 e1
    unfold rootW
    by_cases c : (2 * r + 1) * (2 * r + 1) < 4 * d
    · simp only [if_pos c]
      simp?! [t8_root, t9_root, t10_root, e1, i1, m2, c, f1, finR_ret]
    · have c' : decide ((2 * r + 1) * (2 * r + 1) < 4 * d) = false := decide_eq_false c
      simp only [if_neg c]
      simp?! [t8_root, t9_root, t10_root, e1, i1, m2, c', f0, finR_ret]
  | away =>
    simp only [reduceCtorEq, decide_false, decide_true, Bool.false_or] at i1 e1
    unfold rootW
    by_cases c : (2 * r + 1) * (2 * r + 1) < 4 * d
    · simp only [if_pos c]
      simp?! [t8_root, t9_root, t10_root, e1, i1, m2, c, f1, finR_ret]
    · have c' : decide ((2 * r + 1) * (2 * r + 1) < 4 * d) = false := decide_eq_false c
      simp only [if_neg c]
      simp?! [t8_root, t9_root, t10_root, e1, i1, m2, c', f0, finR_ret]
theorem sq_lt {a b : Int} (ha : 0 ≤ a) (hb : 0 ≤ b) (h : a * a < b * b) : a < b := by
  by_cases c : a < b
  · exact c
  · exfalso
    have : b * b ≤ a * a := Int.mul_le_mul (by omega) (by omega) hb ha
    omega
theorem root_tail (m : Mn) {o : En} {d0 p0 : Int} (h0 : 0 < d0) (h1 : d0 < 1000000000) : ∃ (d r : Int) (k : Nat), 100000000000000 ≤ d ∧ d < 10000000000000000 ∧ 0 ≤ r ∧ r * r ≤ d ∧ d < (r + 1) * (r + 1) ∧ d = d0 * 100 ^ k ∧ k ≤ 8 ∧
    finR (t4_root [o, .z (.str m.s), .z (.int d0), .z (.int p0), .u, .u]) = optR (fitZ (m.by false) (rootW (m.by false) r d) (p0 / 2 - k) false) := by
  have h7 : (100 : Int) ^ 7 = 100000000000000 := by decide
  obtain ⟨k, d, k1, k2, k3, k4, k5⟩ := root_loop (o := o) (mm := .z (.str m.s)) (x := .u) (y := .u) 7 d0 (p0 / 2) h0 (by omega) (by rw [h7]; omega) 100000 (by decide)
  obtain ⟨r, r1, r2, r3, r4⟩ := x_wroot (w := d) (by omega) (by omega)
  have rl : r < 1000000000 := sq_lt r1 (by decide) (by omega)
  have rg : 0 < r := by
    have := sq_lt (a := 1) (b := r + 1) (by decide) (by omega) (by omega)
    omega
  have bs := x_bysize m false
  refine ⟨d, r, k, k2, k3, r1, r2, r3, k1, by omega, ?_⟩
  rw [← root_end (m.by false) (o := o) (mm := .z (.str m.s)) r1 rl k3 rg]
  simp?! [t4_root, t5_root, t6_root, t7_root, k5, r4, bs]
theorem x_root (m : Mn) {a b : Int} (ha : 0 < a) (ha8 : a < 100000000) : ∃ (d r p : Int) (j : Nat), 100000000000000 ≤ d ∧ d < 10000000000000000 ∧ 0 ≤ r ∧ r * r ≤ d ∧ d < (r + 1) * (r + 1) ∧ d = a * 10 ^ j ∧ b - j = 2 * p ∧ j ≤ 17 ∧
    d_root [.tup [.int a, .int b], .str m.s] = optR (fitZ (m.by false) (rootW (m.by false) r d) p false) := by
  have d1 : decide (a < 0) = false := decide_eq_false (by omega)
  have e1 : (a == 0) = false := by simpa using (show a ≠ 0 by omega)
  have h100 : ∀ k : Nat, (100 : Int) ^ k = 10 ^ (2 * k) := fun k => by rw [Int.pow_mul]; rfl
  by_cases hb : b % 2 = 1
  · obtain ⟨d, r, k, q1, q2, q3, q4, q5, q6, q7, q8⟩ := root_tail m (o := .z (.tup [.int a, .int b])) (d0 := a * 10) (p0 := b - 1) (by omega) (by omega)
    refine ⟨d, r, (b - 1) / 2 - k, 2 * k + 1, q1, q2, q3, q4, q5, ?_, by omega, by omega, ?_⟩
    · rw [q6, h100, Int.pow_succ, Int.mul_comm (10 ^ (2 * k)) 10, Int.mul_assoc]
    · rw [← q8]
      simp?! [v_root, g_root, t1_root, t2_root, t3_root, d1, e1, hb, beq_self_eq_true]
  · have e2 : (b % 2 == 1) = false := by simpa using hb
    obtain ⟨d, r, k, q1, q2, q3, q4, q5, q6, q7, q8⟩ := root_tail m (o := .z (.tup [.int a, .int b])) (d0 := a) (p0 := b) (by omega) (by omega)
    refine ⟨d, r, b / 2 - k, 2 * k, q1, q2, q3, q4, q5, ?_, by omega, by omega, ?_⟩
    · rw [q6, h100]
    · rw [← q8]
      simp?! [v_root, g_root, t1_root, t2_root, t3_root, d1, e1, e2]
/-! deeds by key -/
def ddD : Dd → List D → Res D
  | .plus => d_plus | .minus => d_minus | .times => d_times | .over => d_over
theorem callF_def {i : Nat} {disp : Str → Option (List D → Res D)} {f : Rho → Res (List D)} {ρ : Rho} {n : Str} {g : List D → Res D} {ds : List D} (h : ρ[i]? = some (.z (.fn n))) (hd : disp n = some g) (hf : f ρ = .ok ds) : callF i disp f ρ = g ds := by
  unfold callF
  rw [h]
  simp only [hd, hf]
  rfl
section
variable {m l B x y z t f : D} {en : D}
theorem to_dd (w : Dd) : d_told_of [.str w.s, m, .tup [x, y, z, t]] = (ddD w [y, x, m]).bind fun r => .ok (.tup [r, z, t, t]) := by
  have er : (w.s == Str.ofString "root") = false := by cases w <;> decide +kernel
  have et : tabF [("plus", "plus"), ("minus", "minus"), ("times", "times"), ("over", "over")] (var 0) [.z (.str w.s), .z m, .z (.tup [x, y, z, t]), .u] = .ok (.fn w.s) := by cases w <;> kernel_rfl
  have ar : acons (bop ixD (var 2) (con (.int 1))) (acons (bop ixD (var 2) (con (.int 0))) (acons (var 1) anil)) [.z (.str w.s), .z m, .z (.tup [x, y, z, t]), .z (.fn w.s)] = .ok [y, x, m] := by kernel_rfl
  have key : d_told_of [.str w.s, m, .tup [x, y, z, t]] = finR (t2_told_of [.z (.str w.s), .z m, .z (.tup [x, y, z, t]), .z (.fn w.s)]) := by
    simp?! [v_told_of, g_told_of, t1_told_of, er, et]
  rw [key]
  have cf : callF 3 (fun n => (if n = "plus" then some (fun ds => if ds.length = 3 then d_plus ds else .bad) else (if n = "minus" then some (fun ds => if ds.length = 3 then d_minus ds else .bad) else (if n = "times" then some (fun ds => if ds.length = 3 then d_times ds else .bad) else (if n = "over" then some (fun ds => if ds.length = 3 then d_over ds else .bad) else none))))) (acons (bop ixD (var 2) (con (.int 1))) (acons (bop ixD (var 2) (con (.int 0))) (acons (var 1) anil))) [.z (.str w.s), .z m, .z (.tup [x, y, z, t]), .z (.fn w.s)] = ddD w [y, x, m] := by
    have hd : ∃ g : List D → Res D, (if w.s = "plus" then some (fun ds : List D => if ds.length = 3 then d_plus ds else .bad) else (if w.s = "minus" then some (fun ds => if ds.length = 3 then d_minus ds else .bad) else (if w.s = "times" then some (fun ds => if ds.length = 3 then d_times ds else .bad) else (if w.s = "over" then some (fun ds => if ds.length = 3 then d_over ds else .bad) else none)))) = some g ∧ ∀ ds, g ds = if ds.length = 3 then ddD w ds else .bad := by
      cases w with
      | plus => exact ⟨_, if_pos rfl, fun _ => rfl⟩
      | minus => exact ⟨_, by rw [if_neg (by decide +kernel)]; exact if_pos rfl, fun _ => rfl⟩
      | times => exact ⟨_, by rw [if_neg (by decide +kernel), if_neg (by decide +kernel)]; exact if_pos rfl, fun _ => rfl⟩
      | over => exact ⟨_, by rw [if_neg (by decide +kernel), if_neg (by decide +kernel), if_neg (by decide +kernel)]; exact if_pos rfl, fun _ => rfl⟩
    obtain ⟨g, hg, hgd⟩ := hd
    rw [callF_def (n := w.s) (g := g) (ds := [y, x, m]) rfl hg ar, hgd]
    rfl
  unfold t2_told_of
  rw [sret_def, mkT_def, acons_def, cf]
  cases ddD w [y, x, m] with
  | ok r => kernel_rfl
  | ex n => rfl
  | bad => rfl
theorem to_root : d_told_of [.str "root", m, .tup [x, y, z, t]] = (d_root [x, m]).bind fun r => .ok (.tup [r, y, z, t]) := by
  have s1 : slD (.tup [x, y, z, t]) (some 1) none = some (.tup [y, z, t]) := by kernel_rfl
  have ad : ∀ n : D, addD (.tup [n]) (.tup [y, z, t]) = some (.tup [n, y, z, t]) := fun n => by kernel_rfl
  cases h : d_root [x, m] with
  | ok r => simp?! [v_told_of, g_told_of, beq_self_eq_true, h, s1, ad]; rfl
  | ex n =>
    have e1 : ∀ r : Res (List D), consR (.ex n) r = .ex n := fun _ => rfl
    have e2 : mkTR (.ex n) = .ex n := rfl
    have e3 : ∀ G r, app2 G (.ex n) r = .ex n := fun _ _ => rfl
    simp?! [v_told_of, g_told_of, beq_self_eq_true, h, e1, e2, e3, retR_ex, seqR_ex, finR_ex]; rfl
  | bad =>
    have e1 : ∀ r : Res (List D), consR .bad r = .bad := fun _ => rfl
    have e2 : mkTR .bad = .bad := rfl
    have e3 : ∀ G r, app2 G .bad r = .bad := fun _ _ => rfl
    simp?! [v_told_of, g_told_of, beq_self_eq_true, h, e1, e2, e3]; rfl
/-- what with_deed makes of it -/
def wdR (m P x l B f od : D) : Res D → Res D
  | .ok p => .ok (.tup [m, p, x, B, .non, .bl true, od])
  | .ex n => if n = "NoDeed" then .ok (.tup [m, P, l, B, .non, f, .str "deed"]) else if n = "TooGreat" then .ok (.tup [m, P, l, B, .non, f, .str "great"]) else .bad
  | .bad => .bad
theorem wd_eq {k : Str} {n : Str} : d_with_deed [.tup [m, .tup [x, y, z, t], l, B, en, f, .non], .str k] = wdR m (.tup [x, y, z, t]) x l B f .non (d_told_of [.str k, m, .tup [x, y, z, t]]) := by
  rw [v_with_deed]
  unfold g_with_deed
  have a7 : sasg (var 0) (gt 7 (gsc (gn 2) (gsc (gn 3) (gsc (gn 4) (gsc (gn 5) (gsc (gn 6) (gsc (gn 7) (gsc (gn 8) gsn)))))))) [.z (.tup [m, .tup [x, y, z, t], l, B, en, f, .non]), .z (.str k), .u, .u, .u, .u, .u, .u, .u, .u] = .nx [.z (.tup [m, .tup [x, y, z, t], l, B, en, f, .non]), .z (.str k), .z m, .z (.tup [x, y, z, t]), .z l, .z B, .z en, .z f, .z .non, .u] := rfl
  rw [sseq_def, a7, seqR_nx]
  unfold t1_with_deed
  rw [sseq_def]
  have c : sasg (callD 3 d_told_of (acons (var 1) (acons (var 2) (acons (var 3) anil)))) (gn 9) [.z (.tup [m, .tup [x, y, z, t], l, B, en, f, .non]), .z (.str k), .z m, .z (.tup [x, y, z, t]), .z l, .z B, .z en, .z f, .z .non, .u] = asgR (d_told_of [.str k, m, .tup [x, y, z, t]]) [.z (.tup [m, .tup [x, y, z, t], l, B, en, f, .non]), .z (.str k), .z m, .z (.tup [x, y, z, t]), .z l, .z B, .z en, .z f, .z .non, .u] (gn 9) := by
    simp?! []
  unfold stry2
  rw [c]
  cases d_told_of [.str k, m, .tup [x, y, z, t]] with
  | ok p => kernel_rfl
  | bad => rfl
  | ex n =>
    simp only [asgR_ex, wdR]
    by_cases h1 : n = "NoDeed"
    · rw [if_pos h1, if_pos h1]; kernel_rfl
    · rw [if_neg h1, if_neg h1]
      by_cases h2 : n = "TooGreat"
      · rw [if_pos h2, if_pos h2]; kernel_rfl
      · rw [if_neg h2, if_neg h2]; rfl
theorem kp_deed {k : Str} {st : D} (h0 : d_is_key [.str k] = .ok (.bl true)) (h1 : (k == Str.ofString ".") = false) (h2 : inD (.str k) (.str "0123456789") = some (.bl false)) (h3 : (k == Str.ofString "sign") = false) (h4 : (["plus", "minus", "times", "over"] : List Str).contains k = true ∨ (k == Str.ofString "root") = true) :
    d_pressed [.tup [m, .tup [x, y, z, t], l, B, en, f, .non], .str k] = d_with_deed [.tup [m, .tup [x, y, z, t], l, B, en, f, .non], .str k] := by
  have e1 : isNotN .non .non = some (.bl false) := rfl
  have it : inT ["plus", "minus", "times", "over"] (var 1) [.z (.tup [m, .tup [x, y, z, t], l, B, en, f, .non]), .z (.str k)] = .ok (.bl ((["plus", "minus", "times", "over"] : List Str).contains k)) := rfl
  rcases h4 with h4 | h4
  · rw [h4] at it
    simp?! [v_pressed, g_pressed, t1_pressed, t2_pressed, t3_pressed, t4_pressed, h0, ix_t6, e1, h1, h2, h3, it, finR_ret, finR_sr]
  · by_cases h5 : (["plus", "minus", "times", "over"] : List Str).contains k = true
    · rw [h5] at it
      simp?! [v_pressed, g_pressed, t1_pressed, t2_pressed, t3_pressed, t4_pressed, h0, ix_t6, e1, h1, h2, h3, it, finR_ret, finR_sr]
    · rw [Bool.not_eq_true] at h5
      rw [h5] at it
      simp?! [v_pressed, g_pressed, t1_pressed, t2_pressed, t3_pressed, t4_pressed, h0, ix_t6, e1, h1, h2, h3, h4, it, finR_ret, finR_sr]
end
theorem kp_dd {m l B x y z t f en : D} (w : Dd) : d_pressed [.tup [m, .tup [x, y, z, t], l, B, en, f, .non], .str w.s] = wdR m (.tup [x, y, z, t]) x l B f .non ((ddD w [y, x, m]).bind fun r => .ok (.tup [r, z, t, t])) := by
  rw [kp_deed (k := w.s) (kd_is (.dd w)) (by cases w <;> decide +kernel) (by cases w <;> kernel_rfl) (by cases w <;> decide +kernel) (.inl (by cases w <;> decide +kernel)) (st := .non), wd_eq (n := w.s), to_dd]
theorem kp_root {m l B x y z t f en : D} : d_pressed [.tup [m, .tup [x, y, z, t], l, B, en, f, .non], .str "root"] = wdR m (.tup [x, y, z, t]) x l B f .non ((d_root [x, m]).bind fun r => .ok (.tup [r, y, z, t])) := by
  rw [kp_deed (k := "root") (kd_is .root) (by decide +kernel) (by kernel_rfl) (by decide +kernel) (.inr (by decide +kernel)) (st := .non), wd_eq (n := "root"), to_root]
theorem y_dd (m : Mn) (w : Dd) {s n : Int × Int} (h1 : NO s) (h2 : NO n) : ddD w [numD s, numD n, .str m.s] = if w = .over ∧ n.1 = 0 then .ex "NoDeed" else optR (exV m (ddV w (vl s) (vl n))) := by
  obtain ⟨a1, b1⟩ := s
  obtain ⟨a2, b2⟩ := n
  have n1 := num_b h1
  have n2 := num_b h2
  cases w with
  | plus => rw [if_neg (by simp)]; exact y_plus m n1 n2
  | minus => rw [if_neg (by simp)]; exact y_minus m n1 n2
  | times => rw [if_neg (by simp)]; exact y_times m n1 n2
  | over =>
    have := y_over m n1 n2
    simp only at this
    by_cases h : a2 = 0
    · rw [if_pos h] at this
      rw [if_pos ⟨rfl, h⟩]
      exact this
    · rw [if_neg h] at this
      rw [if_neg (fun z => h z.2)]
      exact this
/-! roots -/
theorem rootW_range {h : Hw} {r d : Int} (h1 : 100000000000000 ≤ d) (h2 : d < 10000000000000000) (h3 : 0 ≤ r) (h4 : r * r ≤ d) (h5 : d < (r + 1) * (r + 1)) : 10000000 ≤ rootW h r d ∧ rootW h r d ≤ 100000000 := by
  have lo : 10000000 ≤ r := by
    by_cases q : 10000000 ≤ r
    · exact q
    · exfalso
      have := Int.mul_le_mul (show r + 1 ≤ 10000000 by omega) (show r + 1 ≤ 10000000 by omega) (by omega) (by omega)
      omega
  have hi : r < 100000000 := by
    by_cases q : r < 100000000
    · exact q
    · exfalso
      have := Int.mul_le_mul (show 100000000 ≤ r by omega) (show 100000000 ≤ r by omega) (by omega) (by omega)
      omega
  unfold rootW
  cases h <;> simp only <;> (try split) <;> omega
theorem y_root (m : Mn) {s : Int × Int} (h : NO s) : if s.1 < 0 then d_root [numD s, .str m.s] = .ex "NoDeed" else d_root [numD s, .str m.s] = .ok (numD (rootZ m s)) ∧ NO (rootZ m s) := by
  have fin : ∀ p : Int × Int, d_root [numD s, .str m.s] = .ok (numD p) → NO p → d_root [numD s, .str m.s] = .ok (numD (rootZ m s)) ∧ NO (rootZ m s) := by
    intro p e ok
    have : rootZ m s = p := by unfold rootZ; rw [e]
    rw [this]
    exact ⟨e, ok⟩
  obtain ⟨a, b⟩ := s
  by_cases h0 : a < 0
  · rw [if_pos h0]
    have d1 : decide (a < 0) = true := decide_eq_true h0
    show d_root [.tup [.int a, .int b], .str m.s] = _
    simp?! [v_root, g_root, t1_root, d1, finR_ex]
  · rw [if_neg h0]
    by_cases h1 : a = 0
    · refine fin (a, b) ?_ h
      subst h1
      show d_root [.tup [.int 0, .int b], .str m.s] = .ok (.tup [.int 0, .int b])
      have d1 : decide ((0 : Int) < 0) = false := rfl
      simp?! [v_root, g_root, t1_root, t2_root, d1, beq_self_eq_true]
    · have nb := num_b h
      obtain ⟨d, r, p, j, q1, q2, q3, q4, q5, q6, q7, q8, q9⟩ := x_root m (a := a) (b := b) (by omega) (by have := nb.1; simp only at this; omega)
      obtain ⟨w1, w2⟩ := rootW_range (h := m.by false) q1 q2 q3 q4 q5
      have bb := nb.2
      simp only at bb
      have hv : ¬ T 41 ≤ vl (rootW (m.by false) r d, p) := by
        have h1 : vl (rootW (m.by false) r d, p) ≤ T (8 + p) := by
          rw [T_add, T_8]
          exact Rat.mul_le_mul_of_nonneg_right (Rat.intCast_le_intCast.mpr w2) (Rat.le_of_lt (T_pos p))
        have h2 := T_lt (show 8 + p < 41 by omega)
        grind
      have hv2 : ¬ vl (rootW (m.by false) r d, p) < T (-40) := by
        have h1 : T (7 + p) ≤ vl (rootW (m.by false) r d, p) := by
          rw [T_add, T_7]
          exact Rat.mul_le_mul_of_nonneg_right (Rat.intCast_le_intCast.mpr w1) (Rat.le_of_lt (T_pos p))
        have h2 := T_mono (show (-40 : Int) ≤ 7 + p by omega)
        grind
      have fr := fit_R (m.by false) (p := p) false (show 0 < rootW (m.by false) r d by omega)
      rw [if_neg hv, if_neg hv2] at fr
      rw [fr] at q9
      have ok := strip_ok (p := p) (show 0 < rootW (m.by false) r d by omega) w2 hv hv2
      have s1 : sgZ false = 1 := rfl
      rw [s1, Int.one_mul] at q9
      exact fin (strip 5000 (rootW (m.by false) r d) p) q9 ok
/-! a key pressed -/
theorem set_map (l : List (Int × Int)) (i : Nat) (v : Int × Int) : (l.set i v).map numD = (l.map numD).set i (numD v) := by
  rw [List.map_set]
theorem getD_map (l : List (Int × Int)) {i : Nat} (h : i < l.length) : (l.map numD).getD i .non = numD (l.getD i (0, 0)) := by
  rw [List.getD_eq_getElem?_getD, List.getD_eq_getElem?_getD, List.getElem?_map, List.getElem?_eq_getElem h]
  rfl
theorem x_press {s : Sta} (ok : s.Ok) (k : Ky) : d_pressed [s.D, .str k.s] = .ok (pressZ s k).D ∧ (pressZ s k).Ok := by
  obtain ⟨m, x, y, z, t, l, bx, en, lf, od⟩ := s
  have ox := ok.x
  have oy := ok.y
  have oz := ok.z
  have ot := ok.t
  have ol := ok.l
  have obl := ok.bl
  have ob := ok.b
  have oe := ok.e
  simp only at ox oy oz ot ol obl ob oe
  cases od with
  | some o =>
    have eo : ∃ w : Str, odD (some o) = .str w := by cases o <;> exact ⟨_, rfl⟩
    obtain ⟨w, hw⟩ := eo
    by_cases hk : k = .clear
    · subst hk
      have e : pressZ ⟨m, x, y, z, t, l, bx, en, lf, some o⟩ .clear = ⟨m, x, y, z, t, l, bx, none, false, none⟩ := rfl
      rw [e]
      refine ⟨?_, ⟨ox, oy, oz, ot, ol, obl, ob, fun e h => by cases h⟩⟩
      show d_pressed [.tup [.str m.s, .tup [numD x, numD y, numD z, numD t], numD l, .tup (bx.map numD), enD en, .bl lf, odD (some o)], .str "clear"] = _
      rw [hw]
      exact kp_oddc
    · have e : pressZ ⟨m, x, y, z, t, l, bx, en, lf, some o⟩ k = ⟨m, x, y, z, t, l, bx, en, lf, some o⟩ := if_neg hk
      rw [e]
      refine ⟨?_, ok⟩
      show d_pressed [.tup [.str m.s, .tup [numD x, numD y, numD z, numD t], numD l, .tup (bx.map numD), enD en, .bl lf, odD (some o)], .str k.s] = .ok (.tup [.str m.s, .tup [numD x, numD y, numD z, numD t], numD l, .tup (bx.map numD), enD en, .bl lf, odD (some o)])
      rw [hw]
      exact kp_odd k hk
  | none =>
    have no : odD none = .non := rfl
    have mk : ∀ x y z t l : Int × Int, ∀ bx : List (Int × Int), NO x → NO y → NO z → NO t → NO l → bx.length = 10 → (∀ n ∈ bx, NO n) → ∀ lf od, (⟨m, x, y, z, t, l, bx, none, lf, od⟩ : Sta).Ok := fun x y z t l bx h1 h2 h3 h4 h5 h6 h7 lf od => ⟨h1, h2, h3, h4, h5, h6, h7, fun e h => by cases h⟩
    have typ : ∀ k : Ky, (k = .dot ∨ ∃ i, k = .fig i) → d_typed [.tup [.str m.s, .tup [numD x, numD y, numD z, numD t], numD l, .tup (bx.map numD), enD en, .bl lf, .non], .str k.s] = .ok (typeZ ⟨m, x, y, z, t, l, bx, en, lf, none⟩ k).D ∧ (typeZ ⟨m, x, y, z, t, l, bx, en, lf, none⟩ k).Ok := by
      intro k hk
      cases en with
      | none =>
        have ek : EntOk (entK none k) := by
          rcases hk with rfl | ⟨i, rfl⟩
          · exact ⟨fun c hc => by rcases List.mem_singleton.mp hc with rfl; omega, fun _ h => (by cases h), by decide, fun _ => rfl, by decide⟩
          · exact ⟨fun c hc => by rcases List.mem_singleton.mp hc with rfl; have := i.isLt; omega, fun _ h => (by cases h), by simp [entK], fun _ => rfl, by simp [entK]⟩
        have tn := ty_none (m := .str m.s) (l := numD l) (B := .tup (bx.map numD)) (x := numD x) (y := numD y) (z := numD z) (t := numD t) (b := lf) hk
        cases lf with
        | true => exact ⟨tn, ⟨ent_ok ek, ox, oy, oz, ol, obl, ob, fun e h => by cases h; exact ek⟩⟩
        | false => exact ⟨tn, ⟨ent_ok ek, oy, oz, ot, ol, obl, ob, fun e h => by cases h; exact ek⟩⟩
      | some e =>
        have he := oe e rfl
        have ek := entK_ok he k
        have ts := ty_some (m := .str m.s) (l := numD l) (B := .tup (bx.map numD)) (x := numD x) (y := numD y) (z := numD z) (t := numD t) (f := .bl lf) he hk
        exact ⟨ts, ⟨ent_ok ek, oy, oz, ot, ol, obl, ob, fun e h => by cases h; exact ek⟩⟩
    have push : ∀ n : Int × Int, NO n → (pushZ ⟨m, x, y, z, t, l, bx, en, lf, none⟩ n).Ok := by
      intro n hn
      unfold pushZ
      cases lf with
      | true => exact mk _ _ _ _ _ _ hn ox oy oz ol obl ob _ _
      | false => exact mk _ _ _ _ _ _ hn oy oz ot ol obl ob _ _
    cases k with
    | fig i =>
      obtain ⟨t1, t2⟩ := typ (.fig i) (.inr ⟨i, rfl⟩)
      exact ⟨kp_fig.trans t1, t2⟩
    | dot =>
      obtain ⟨t1, t2⟩ := typ .dot (.inl rfl)
      exact ⟨kp_dot.trans t1, t2⟩
    | sign =>
      cases en with
      | none =>
        obtain ⟨a, b⟩ := x
        exact ⟨kp_sign0, mk _ _ _ _ _ _ ox.neg oy oz ot ol obl ob _ _⟩
      | some e =>
        have he := oe e rfl
        have h2 : EntOk ({ e with neg := !e.neg } : Ent) := ⟨he.a, he.b, he.ne, he.np, he.len⟩
        exact ⟨kp_sign1 he, ⟨ent_ok h2, oy, oz, ot, ol, obl, ob, fun e h => by cases h; exact h2⟩⟩
    | enter => exact ⟨kp_enter, mk _ _ _ _ _ _ ox ox oy oz ol obl ob _ _⟩
    | swap => exact ⟨kp_swap, mk _ _ _ _ _ _ oy ox oz ot ol obl ob _ _⟩
    | roll => exact ⟨kp_roll, mk _ _ _ _ _ _ oy oz ot ox ol obl ob _ _⟩
    | clear => exact ⟨kp_clear, mk _ _ _ _ _ _ zero_ok oy oz ot ol obl ob _ _⟩
    | last =>
      refine ⟨?_, push l ol⟩
      cases lf with
      | true => exact kp_last1
      | false => exact kp_last0
    | put i =>
      refine ⟨?_, mk _ _ _ _ _ _ ox oy oz ot ol (by rw [List.length_set]; exact obl) (fun n hn => ?_) _ _⟩
      · have e : (pressZ ⟨m, x, y, z, t, l, bx, en, lf, none⟩ (.put i)).D = .tup [.str m.s, .tup [numD x, numD y, numD z, numD t], numD l, .tup ((bx.map numD).set i.val (numD x)), .non, .bl true, .non] := by
          rw [← set_map]; rfl
        rw [e]
        show d_pressed [.tup [.str m.s, .tup [numD x, numD y, numD z, numD t], numD l, .tup (bx.map numD), enD en, .bl lf, .non], .str (Ky.put i).s] = _
        match bx, obl with
        | [b0, b1, b2, b3, b4, b5, b6, b7, b8, b9], _ => exact kp_put i
      · rcases List.mem_or_eq_of_mem_set hn with h | h
        · exact ob n h
        · rw [h]; exact ox
    | get i =>
      have hi : i.val < bx.length := by rw [obl]; exact i.isLt
      have on : NO (bx.getD i.val (0, 0)) := by
        rw [List.getD_eq_getElem?_getD, List.getElem?_eq_getElem hi]
        exact ob _ (List.getElem_mem hi)
      refine ⟨?_, push _ on⟩
      have gm := getD_map bx hi
      cases lf with
      | true =>
        have e : (pressZ ⟨m, x, y, z, t, l, bx, en, true, none⟩ (.get i)).D = .tup [.str m.s, .tup [(bx.map numD).getD i.val .non, numD x, numD y, numD z], numD l, .tup (bx.map numD), .non, .bl true, .non] := by
          rw [gm]; rfl
        rw [e]
        show d_pressed [.tup [.str m.s, .tup [numD x, numD y, numD z, numD t], numD l, .tup (bx.map numD), enD en, .bl true, .non], .str (Ky.get i).s] = _
        match bx, obl with
        | [b0, b1, b2, b3, b4, b5, b6, b7, b8, b9], _ => exact kp_get1 i
      | false =>
        have e : (pressZ ⟨m, x, y, z, t, l, bx, en, false, none⟩ (.get i)).D = .tup [.str m.s, .tup [(bx.map numD).getD i.val .non, numD y, numD z, numD t], numD l, .tup (bx.map numD), .non, .bl true, .non] := by
          rw [gm]; rfl
        rw [e]
        show d_pressed [.tup [.str m.s, .tup [numD x, numD y, numD z, numD t], numD l, .tup (bx.map numD), enD en, .bl false, .non], .str (Ky.get i).s] = _
        match bx, obl with
        | [b0, b1, b2, b3, b4, b5, b6, b7, b8, b9], _ => exact kp_get0 i
    | root =>
      have yr := y_root m ox
      have kr := kp_root (m := .str m.s) (l := numD l) (B := .tup (bx.map numD)) (x := numD x) (y := numD y) (z := numD z) (t := numD t) (f := .bl lf) (en := enD en)
      by_cases h0 : x.1 < 0
      · rw [if_pos h0] at yr
        have e : pressZ ⟨m, x, y, z, t, l, bx, en, lf, none⟩ .root = ⟨m, x, y, z, t, l, bx, none, lf, some false⟩ := if_pos h0
        rw [e]
        rw [yr] at kr
        exact ⟨kr, mk _ _ _ _ _ _ ox oy oz ot ol obl ob _ _⟩
      · rw [if_neg h0] at yr
        have e : pressZ ⟨m, x, y, z, t, l, bx, en, lf, none⟩ .root = ⟨m, rootZ m x, y, z, t, x, bx, none, true, none⟩ := if_neg h0
        rw [e]
        rw [yr.1] at kr
        exact ⟨kr, mk _ _ _ _ _ _ yr.2 oy oz ot ox obl ob _ _⟩
    | dd w =>
      have yd := y_dd m w oy ox
      have kr := kp_dd (m := .str m.s) (l := numD l) (B := .tup (bx.map numD)) (x := numD x) (y := numD y) (z := numD z) (t := numD t) (f := .bl lf) (en := enD en) w
      show _ = Res.ok (deedZ ⟨m, x, y, z, t, l, bx, en, lf, none⟩ w).D ∧ (deedZ ⟨m, x, y, z, t, l, bx, en, lf, none⟩ w).Ok
      unfold deedZ
      by_cases h0 : w = .over ∧ x.1 = 0
      · rw [if_pos h0] at yd ⊢
        rw [yd] at kr
        exact ⟨kr, mk _ _ _ _ _ _ ox oy oz ot ol obl ob _ _⟩
      · rw [if_neg h0] at yd ⊢
        simp only
        cases hv : exV m (ddV w (vl y) (vl x)) with
        | none =>
          rw [hv] at yd
          rw [yd] at kr
          exact ⟨kr, mk _ _ _ _ _ _ ox oy oz ot ol obl ob _ _⟩
        | some r =>
          rw [hv] at yd
          rw [yd] at kr
          exact ⟨kr, mk _ _ _ _ _ _ (exV_some hv).1 oz ot ot ox obl ob _ _⟩
/-! rows -/
def beginZ (m : Mn) : Sta := ⟨m, (0, 0), (0, 0), (0, 0), (0, 0), (0, 0), List.replicate 10 (0, 0), none, false, none⟩
theorem begin_ok (m : Mn) : (beginZ m).Ok := ⟨zero_ok, zero_ok, zero_ok, zero_ok, zero_ok, rfl, fun n hn => by rw [List.eq_of_mem_replicate hn]; exact zero_ok, fun e h => by cases h⟩
theorem x_begin (m : Mn) : d_begin [.str m.s] = .ok (beginZ m).D := by kernel_rfl
/-! written -/
/-! lists -/
theorem comp_map {α : Type} {f : α → D} {i : Nat} {e : Rho → Res D} {ρ : Rho} : ∀ (ds : List D), (∀ d ∈ ds, ∃ a, e (ρ.set i (.z d)) = .ok (f a)) → ∃ as : List α, as.length = ds.length ∧ compD (gn i) yes e ρ ds = .ok (as.map f)
  | [], _ => ⟨[], rfl, rfl⟩
  | d :: ds, h => by
    obtain ⟨a, ha⟩ := h d List.mem_cons_self
    obtain ⟨as, h1, h2⟩ := comp_map (f := f) (i := i) (e := e) (ρ := ρ) ds fun x hx => h x (List.mem_cons_of_mem _ hx)
    exact ⟨a :: as, by simp [h1], comp_t (show gn i ρ d = some (ρ.set i (.z d)) from rfl) rfl ha h2⟩
theorem rngD_mem {n : Nat} {d : D} (h : d ∈ rngD 0 n) : ∃ j : Nat, j < n ∧ d = .int (j : Int) := by
  unfold rngD at h
  obtain ⟨j, hj, rfl⟩ := List.mem_map.mp h
  exact ⟨j, List.mem_range.mp hj, by simp⟩
theorem add_tt {a b : List D} (h : a.length + b.length ≤ 1000) : addD (.tup a) (.tup b) = some (.tup (a ++ b)) := by
  show (if a.length + b.length ≤ sizeLine then some (D.tup (a ++ b)) else none) = _
  rw [if_pos (by rw [sizeLine_eq]; omega)]
/-! drawn keys -/
/-! states are plain -/
theorem so_S {l : List Nat} (h : ∀ c ∈ l, c < 128) : PyData.strOk (S l) = true := by
  unfold PyData.strOk S
  rw [List.all_toArray, List.all_eq_true]
  intro c hc
  have := h c hc
  exact decide_eq_true (by omega)
theorem ent_128 {e : Ent} (h : EntOk e) : ∀ c ∈ e.L, c < 128 := by
  intro c hc
  unfold Ent.L at hc
  rcases List.mem_append.mp hc with q | q
  · rcases List.mem_append.mp q with q | q
    · split at q
      · rcases List.mem_singleton.mp q with rfl; omega
      · cases q
    · have := h.a c q; omega
  · split at q
    · rcases List.mem_cons.mp q with rfl | q
      · omega
      · have := h.b c q; omega
    · cases q
theorem plains_num (n : Nat) : ∀ (l : List (Int × Int)), DN.plains (n + 1) (l.map numD) = true
  | [] => rfl
  | a :: l => by
    show (DN.plain (n + 1) (numD a) && DN.plains (n + 1) (l.map numD)) = true
    rw [plains_num n l]
    rfl
theorem mn_ok (m : Mn) : PyData.strOk m.s = true := by cases m <;> decide +kernel
theorem st_plain {s : Sta} (h : s.Ok) (n : Nat) : DN.plain (n + 3) s.D = true := by
  have e1 : DN.plain (n + 2) (.str s.m.s) = true := mn_ok s.m
  have e2 : DN.plain (n + 2) (.tup (s.bx.map numD)) = true := plains_num n s.bx
  have e3 : DN.plain (n + 2) (enD s.en) = true := by
    cases he : s.en with
    | none => rfl
    | some e => exact so_S (ent_128 (h.e e he))
  have e4 : DN.plain (n + 2) (odD s.od) = true := by
    cases ho : s.od with
    | none => rfl
    | some b =>
      cases b with
      | false => exact (by decide +kernel : PyData.strOk (Str.ofString "deed") = true)
      | true => exact (by decide +kernel : PyData.strOk (Str.ofString "great") = true)
  show (DN.plain (n + 2) (.str s.m.s) && (true && (true && (DN.plain (n + 2) (.tup (s.bx.map numD)) && (DN.plain (n + 2) (enD s.en) && (true && (DN.plain (n + 2) (odD s.od) && true))))))) = true
  rw [e1, e2, e3, e4]
  rfl
/-! what is shown -/
/-! programs run, line by line -/
inductive Ln where | key (k : Ky) | mark (n : Fin 3) | go (n : Fin 3) | call (n : Fin 3) | back | stop | less | same | nought
def Ln.s : Ln → Str
  | .key k => k.s | .mark n => S [109, 97, 114, 107, 49 + n.val] | .go n => S [103, 111, 49 + n.val] | .call n => S [99, 97, 108, 108, 49 + n.val]
  | .back => "back" | .stop => "stop" | .less => "less" | .same => "same" | .nought => "nought"
inductive How where | on | ended | odd | lost
  deriving DecidableEq
def How.s : How → Str
  | .on => "on" | .ended => "ended" | .odd => "odd" | .lost => "lost"
structure Pc where
  ln : Int
  cs : List Int
def Pc.D (p : Pc) : DN.D := .tup [.int p.ln, .tup (p.cs.map .int)]
def soZ (l : Ln) (x y : Int × Int) : Bool := match l with
  | .less => decide (vl x < vl y)
  | .same => decide (x = y)
  | _ => decide (x = (0, 0))
def goalZ (pr : List Ln) (n : Fin 3) : Option Int := (firstIx (Ln.mark n).s (pr.map Ln.s)).map fun j => (j : Int) + 1
def lnZ (pr : List Ln) (s : Sta) (p : Pc) : Ln → Sta × Pc × How
  | .stop => (s, p, .ended)
  | .key k => if (pressZ s k).od.isSome = true then (pressZ s k, p, .odd) else (pressZ s k, ⟨p.ln + 1, p.cs⟩, .on)
  | .mark _ => (s, ⟨p.ln + 1, p.cs⟩, .on)
  | .go n => match goalZ pr n with
    | none => (s, p, .lost)
    | some g => (s, ⟨g, p.cs⟩, .on)
  | .call n => match goalZ pr n with
    | none => (s, p, .lost)
    | some g => if p.cs.length = 4 then (s, p, .lost) else (s, ⟨g, p.cs ++ [p.ln + 1]⟩, .on)
  | .back => match p.cs.getLast? with
    | none => (s, p, .lost)
    | some g => (s, ⟨g, p.cs.dropLast⟩, .on)
  | l => ({ s with en := none, lf := true }, ⟨p.ln + 2 - (if soZ l s.x s.y = true then 1 else 0), p.cs⟩, .on)
def stepZ (pr : List Ln) (s : Sta) (p : Pc) : Sta × Pc × How :=
  if 0 ≤ p.ln ∧ p.ln < pr.length then lnZ pr s p (pr.getD p.ln.toNat .stop) else (s, p, .ended)
theorem fin3' (n : Fin 3) : n = 0 ∨ n = 1 ∨ n = 2 := by revert n; decide
theorem first_mem {z : Str} : ∀ {ys : List Str}, (firstIx z ys).isSome = decide (z ∈ ys)
  | [] => rfl
  | y :: r => by
    show (if y = z then some 0 else (firstIx z r).map (· + 1)).isSome = _
    by_cases q : y = z
    · rw [if_pos q]; subst q; simp
    · rw [if_neg q, Option.isSome_map, first_mem (ys := r)]
      have : z ≠ y := fun e => q e.symm
      simp [this]
def optD : Option Int → D
  | none => .non
  | some g => .int g
theorem x_behind (pr : List Ln) (n : Fin 3) : d_behind_mark [.pro (pr.map Ln.s), .str (S [49 + n.val])] = .ok (optD (goalZ pr n)) := by
  have ad : addD (.str "mark") (.str (S [49 + n.val])) = some (.str (Ln.mark n).s) := by rcases fin3' n with rfl | rfl | rfl <;> kernel_rfl
  have hm := first_mem (z := (Ln.mark n).s) (ys := pr.map Ln.s)
  have ni : niP (.str (Ln.mark n).s) (.pro (pr.map Ln.s)) = some (.bl (!decide ((Ln.mark n).s ∈ pr.map Ln.s))) := rfl
  unfold goalZ
  have mp : metP (var 0) (acons (bop addD (con (.str "mark")) (var 1)) anil) [.z (.pro (pr.map Ln.s)), .z (.str (S [49 + n.val]))] = ofO (indexP (.pro (pr.map Ln.s)) [.str (Ln.mark n).s]) := by
    have ar : acons (bop addD (con (.str "mark")) (var 1)) anil [.z (.pro (pr.map Ln.s)), .z (.str (S [49 + n.val]))] = .ok [.str (Ln.mark n).s] := by simp?! [ad]
    unfold metP
    rw [ar]
    rfl
  cases e : firstIx (Ln.mark n).s (pr.map Ln.s) with
  | none =>
    rw [e] at hm
    have hm : decide ((Ln.mark n).s ∈ pr.map Ln.s) = false := hm.symm
    rw [hm] at ni
    simp?! [v_behind_mark, g_behind_mark, ad, ni]
    rfl
  | some j =>
    rw [e] at hm
    have hm : decide ((Ln.mark n).s ∈ pr.map Ln.s) = true := hm.symm
    rw [hm] at ni
    have ix : indexP (.pro (pr.map Ln.s)) [.str (Ln.mark n).s] = some (.int (j : Nat)) := by
      show (firstIx (Ln.mark n).s (pr.map Ln.s)).map (fun j => D.int (j : Nat)) = _
      rw [e]; rfl
    rw [ix] at mp
    simp?! [v_behind_mark, g_behind_mark, t1_behind_mark, ad, ni, mp]
    rfl
theorem eq_num (x y : Int × Int) : eqD (numD x) (numD y) = some (.bl (decide (x = y))) := by
  obtain ⟨a, b⟩ := x
  obtain ⟨c, d⟩ := y
  have h : eqD (numD (a, b)) (numD (c, d)) = some (.bl ((a == c) && ((b == d) && true))) := rfl
  rw [h]
  congr 2
  rw [Bool.eq_iff_iff]
  simp
theorem x_so {x y z t : Int × Int} (hx : NO x) (hy : NO y) {l : Ln} (hl : l = .less ∨ l = .same ∨ l = .nought) : d_is_so [.str l.s, .tup [numD x, numD y, numD z, numD t]] = .ok (.bl (soZ l x y)) := by
  rcases hl with rfl | rfl | rfl
  · have h := y_less (num_b hx) (num_b hy)
    have h : d_less [numD x, numD y] = .ok (.bl (decide (vl x < vl y))) := h
    have e : (Ln.less.s == Str.ofString "less") = true := by decide +kernel
    simp?! [v_is_so, g_is_so, e, h]
    rfl
  · have h := eq_num x y
    have e1 : (Ln.same.s == Str.ofString "less") = false := by decide +kernel
    have e2 : (Ln.same.s == Str.ofString "same") = true := by decide +kernel
    simp?! [v_is_so, g_is_so, t1_is_so, e1, e2, h]
    rfl
  · have h := eq_num x (0, 0)
    have h : eqD (numD x) (.tup [.int 0, .int 0]) = some (.bl (decide (x = (0, 0)))) := h
    have e1 : (Ln.nought.s == Str.ofString "less") = false := by decide +kernel
    have e2 : (Ln.nought.s == Str.ofString "same") = false := by decide +kernel
    simp?! [v_is_so, g_is_so, t1_is_so, t2_is_so, e1, e2, h]
    rfl
def pcD : Option Pc → D
  | none => .non
  | some p => p.D
def ledZ (pr : List Ln) (p : Pc) : Ln → Option Pc
  | .go n => (goalZ pr n).map fun g => ⟨g, p.cs⟩
  | .call n => (goalZ pr n).bind fun g => if p.cs.length = 4 then none else some ⟨g, p.cs ++ [p.ln + 1]⟩
  | .back => p.cs.getLast?.map fun g => ⟨g, p.cs.dropLast⟩
  | _ => none
theorem sl_last {cs : List Int} {c : Int} (h : cs.length ≤ 1000) : slD (.tup ((cs ++ [c]).map D.int)) none (some (-1)) = some (.tup (cs.map D.int)) ∧ ixD (.tup ((cs ++ [c]).map D.int)) (.int (-1)) = some (.int c) := by
  have hl : ((cs ++ [c]).map D.int).length = cs.length + 1 := by rw [List.length_map, List.length_append]; rfl
  constructor
  · show some (D.tup (DN.cutD ((cs ++ [c]).map D.int) none (some (-1)))) = _
    unfold DN.cutD
    rw [HT.sIx_none, hl]
    have : HT.sIx (cs.length + 1) (cs.length + 1) (some (-1)) = cs.length := by
      unfold HT.sIx
      simp
      try omega
    rw [this, List.drop_zero, Nat.sub_zero, List.map_append, List.take_left' (by rw [List.length_map])]
  · show atI ((cs ++ [c]).map D.int) (-1) = _
    unfold atI ixN
    rw [if_neg (by decide), hl]
    rw [if_pos (by omega)]
    have h2 : ((((cs.length + 1 : Nat) : Int) + -1).toNat) = cs.length ∨ ((-1 + ((cs.length + 1 : Nat) : Int)).toNat) = cs.length := .inl (by omega)
    have h3 : (-1 + ((cs.length + 1 : Nat) : Int)).toNat = cs.length := by omega
    rw [h3]
    show ((cs ++ [c]).map D.int)[cs.length]? = _
    rw [List.map_append, List.getElem?_append_right (by rw [List.length_map]; exact Nat.le_refl _), List.length_map, Nat.sub_self]
    rfl
theorem x_led {pr : List Ln} {s : D} {p : Pc} {l : Ln} (hp : p.cs.length ≤ 4) (h1 : 0 ≤ p.ln ∧ p.ln < pr.length) (h2 : pr.getD p.ln.toNat .stop = l) (hl : l = .back ∨ (∃ n, l = .go n) ∨ ∃ n, l = .call n) : d_led [.pro (pr.map Ln.s), s, p.D] = .ok (pcD (ledZ pr p l)) := by
  obtain ⟨ln, cs⟩ := p
  have hp : cs.length ≤ 4 := hp
  have h1 : 0 ≤ ln ∧ ln < pr.length := h1
  have h2 : pr.getD ln.toNat .stop = l := h2
  have ix : ixP (.pro (pr.map Ln.s)) (.int ln) = some (.str l.s) := by
    show (atI (pr.map Ln.s) ln).map D.str = _
    unfold atI ixN
    rw [if_pos h1.1, if_pos (by rw [List.length_map]; exact h1.2)]
    simp only [Option.bind_some]
    rw [List.getElem?_map]
    rw [List.getD_eq_getElem?_getD] at h2
    rw [List.getElem?_eq_getElem (by omega)] at h2 ⊢
    rw [← h2]; rfl
  have ln4 : lenD [.tup (cs.map D.int)] = some (.int (cs.length : Int)) := by rw [len_t, List.length_map]
  have key : d_led [.pro (pr.map Ln.s), s, Pc.D ⟨ln, cs⟩] = finR (t2_led [.z (.pro (pr.map Ln.s)), .z s, .z (Pc.D ⟨ln, cs⟩), .z (.int ln), .z (.tup (cs.map D.int)), .z (.str l.s), .u]) := by
    have eD : Pc.D ⟨ln, cs⟩ = .tup [.int ln, .tup (cs.map D.int)] := rfl
    simp?! [v_led, g_led, t1_led, eD, ix]
  rw [key]
  rcases hl with rfl | ⟨n, rfl⟩ | ⟨n, rfl⟩
  · have e1 : (Ln.back.s == Str.ofString "back") = true := by decide +kernel
    rcases List.eq_nil_or_concat cs with rfl | ⟨r, c, rfl⟩
    · have e0 : ((([] : List Int).length : Int) == 0) = true := rfl
      simp?! [t2_led, e1, ln4, e0]
      rfl
    · have e0 : (((r.concat c).length : Int) == 0) = false := by
        rw [beq_eq_false_iff_ne]; simp; omega
      rw [List.concat_eq_append] at *
      obtain ⟨q1, q2⟩ := sl_last (cs := r) (c := c) (by simp at hp; omega)
      simp?! [t2_led, e1, ln4, e0, q1, q2]
      show _ = Res.ok (pcD ((r ++ [c]).getLast?.map _))
      simp [pcD, Pc.D]
  · have e1 : ((Ln.go n).s == Str.ofString "back") = false := by rcases fin3' n with rfl | rfl | rfl <;> decide +kernel
    have bm := x_behind pr n
    have i1 : ixD (.str (Ln.go n).s) (.int (-1)) = some (.str (S [49 + n.val])) := by rcases fin3' n with rfl | rfl | rfl <;> kernel_rfl
    have st : startsD (.str (Ln.go n).s) [.str "go"] = some (.bl true) := by rcases fin3' n with rfl | rfl | rfl <;> kernel_rfl
    show _ = Res.ok (pcD ((goalZ pr n).map _))
    cases e : goalZ pr n with
    | none =>
      rw [e] at bm
      have n1 : isN (optD none) .non = some (.bl true) := rfl
      simp?! [t2_led, t3_led, t4_led, e1, i1, bm, n1]
      rfl
    | some g =>
      rw [e] at bm
      have n1 : isN (optD (some g)) .non = some (.bl false) := rfl
      simp?! [t2_led, t3_led, t4_led, t5_led, e1, i1, bm, n1, met_def, metR_ok, st]
      rfl
  · have e1 : ((Ln.call n).s == Str.ofString "back") = false := by rcases fin3' n with rfl | rfl | rfl <;> decide +kernel
    have bm := x_behind pr n
    have i1 : ixD (.str (Ln.call n).s) (.int (-1)) = some (.str (S [49 + n.val])) := by rcases fin3' n with rfl | rfl | rfl <;> kernel_rfl
    have st : startsD (.str (Ln.call n).s) [.str "go"] = some (.bl false) := by rcases fin3' n with rfl | rfl | rfl <;> kernel_rfl
    show _ = Res.ok (pcD ((goalZ pr n).bind _))
    cases e : goalZ pr n with
    | none =>
      rw [e] at bm
      have n1 : isN (optD none) .non = some (.bl true) := rfl
      simp?! [t2_led, t3_led, t4_led, e1, i1, bm, n1]
      rfl
    | some g =>
      rw [e] at bm
      have n1 : isN (optD (some g)) .non = some (.bl false) := rfl
      show _ = Res.ok (pcD (if cs.length = 4 then none else some ⟨g, cs ++ [ln + 1]⟩))
      by_cases c4 : cs.length = 4
      · have e4 : ((cs.length : Int) == 4) = true := by rw [c4]; rfl
        rw [if_pos c4]
        simp?! [t2_led, t3_led, t4_led, t5_led, t6_led, e1, i1, bm, n1, met_def, metR_ok, st, ln4, e4]
        rfl
      · have e4 : ((cs.length : Int) == 4) = false := by rw [beq_eq_false_iff_ne]; omega
        have ad : addD (.tup (cs.map D.int)) (.tup [.int (ln + 1)]) = some (.tup (cs.map D.int ++ [.int (ln + 1)])) := add_tt (by rw [List.length_map]; simp; omega)
        rw [if_neg c4]
        simp?! [t2_led, t3_led, t4_led, t5_led, t6_led, t7_led, e1, i1, bm, n1, met_def, metR_ok, st, ln4, e4, ad]
        simp [pcD, Pc.D, optD]
structure Pc.Ok (p : Pc) : Prop where
  l : p.cs.length ≤ 4
theorem lnZ_ok {pr : List Ln} {s : Sta} {p : Pc} (hs : s.Ok) (hp : p.Ok) (l : Ln) : (lnZ pr s p l).1.Ok ∧ (lnZ pr s p l).2.1.Ok := by
  have o2 : Sta.Ok { s with en := none, lf := true } := ⟨hs.x, hs.y, hs.z, hs.t, hs.l, hs.bl, hs.b, fun e h => by cases h⟩
  have hl := hp.l
  cases l with
  | stop => exact ⟨hs, hp⟩
  | key k =>
    have := x_press hs k
    show (if _ then _ else _ : Sta × Pc × How).1.Ok ∧ (if _ then _ else _ : Sta × Pc × How).2.1.Ok
    split
    · exact ⟨this.2, hp⟩
    · exact ⟨this.2, ⟨hl⟩⟩
  | mark n => exact ⟨hs, ⟨hl⟩⟩
  | go n =>
    show (match goalZ pr n with | none => _ | some g => _ : Sta × Pc × How).1.Ok ∧ (match goalZ pr n with | none => _ | some g => _ : Sta × Pc × How).2.1.Ok
    split
    · exact ⟨hs, hp⟩
    · exact ⟨hs, ⟨hl⟩⟩
  | call n =>
    show (match goalZ pr n with | none => _ | some g => _ : Sta × Pc × How).1.Ok ∧ (match goalZ pr n with | none => _ | some g => _ : Sta × Pc × How).2.1.Ok
    split
    · exact ⟨hs, hp⟩
    · split
      · exact ⟨hs, hp⟩
      · exact ⟨hs, ⟨by simp; omega⟩⟩
  | back =>
    show (match p.cs.getLast? with | none => _ | some g => _ : Sta × Pc × How).1.Ok ∧ (match p.cs.getLast? with | none => _ | some g => _ : Sta × Pc × How).2.1.Ok
    split
    · exact ⟨hs, hp⟩
    · exact ⟨hs, ⟨by simp; omega⟩⟩
  | less => exact ⟨o2, ⟨hl⟩⟩
  | same => exact ⟨o2, ⟨hl⟩⟩
  | nought => exact ⟨o2, ⟨hl⟩⟩
def spD (r : Sta × Pc × How) : D := .tup [r.1.D, r.2.1.D, .str r.2.2.s]
theorem x_ln {pr : List Ln} {s : Sta} {p : Pc} (hs : s.Ok) (hp : p.Ok) (h1 : 0 ≤ p.ln ∧ p.ln < pr.length) {l : Ln} (h2 : pr.getD p.ln.toNat .stop = l) (hl : l ≠ .stop) : finR (t3_step [.z (.pro (pr.map Ln.s)), .z s.D, .z p.D, .z (.int p.ln), .z (.tup (p.cs.map D.int)), .z (.str l.s), .u, .u]) = .ok (spD (lnZ pr s p l)) := by
  have hk : ∀ {l : Ln}, d_is_key [.str l.s] = .ok (.bl false) → finR (t3_step [.z (.pro (pr.map Ln.s)), .z s.D, .z p.D, .z (.int p.ln), .z (.tup (p.cs.map D.int)), .z (.str l.s), .u, .u]) = finR (t4_step [.z (.pro (pr.map Ln.s)), .z s.D, .z p.D, .z (.int p.ln), .z (.tup (p.cs.map D.int)), .z (.str l.s), .u, .u]) := by
    intro l h
    simp?! [t3_step, h]
  have ht : ∀ {l : Ln}, inD (.str l.s) (.tup [.str "less", .str "same", .str "nought"]) = some (.bl false) → finR (t4_step [.z (.pro (pr.map Ln.s)), .z s.D, .z p.D, .z (.int p.ln), .z (.tup (p.cs.map D.int)), .z (.str l.s), .u, .u]) = finR (t5_step [.z (.pro (pr.map Ln.s)), .z s.D, .z p.D, .z (.int p.ln), .z (.tup (p.cs.map D.int)), .z (.str l.s), .u, .u]) := by
    intro l h
    simp?! [t4_step, h]
  have htest : ∀ {l : Ln}, l = .less ∨ l = .same ∨ l = .nought → finR (t4_step [.z (.pro (pr.map Ln.s)), .z s.D, .z p.D, .z (.int p.ln), .z (.tup (p.cs.map D.int)), .z (.str l.s), .u, .u]) = .ok (spD ({ s with en := none, lf := true }, ⟨p.ln + 2 - (if soZ l s.x s.y = true then 1 else 0), p.cs⟩, .on)) := by
    intro l h
    have i1 : inD (.str l.s) (.tup [.str "less", .str "same", .str "nought"]) = some (.bl true) := by rcases h with rfl | rfl | rfl <;> kernel_rfl
    have so := x_so (z := s.z) (t := s.t) hs.x hs.y h
    obtain ⟨m, x, y, z, t, lt, bx, en, lf, od⟩ := s
    have eD : ∀ en lf, Sta.D ⟨m, x, y, z, t, lt, bx, en, lf, od⟩ = .tup [.str m.s, .tup [numD x, numD y, numD z, numD t], numD lt, .tup (bx.map numD), enD en, .bl lf, odD od] := fun _ _ => rfl
    have s1 : slD (Sta.D ⟨m, x, y, z, t, lt, bx, en, lf, od⟩) none (some 4) = some (.tup [.str m.s, .tup [numD x, numD y, numD z, numD t], numD lt, .tup (bx.map numD)]) := by kernel_rfl
    have s2 : slD (Sta.D ⟨m, x, y, z, t, lt, bx, en, lf, od⟩) (some 6) none = some (.tup [odD od]) := by kernel_rfl
    have a1 : addD (.tup [.str m.s, .tup [numD x, numD y, numD z, numD t], numD lt, .tup (bx.map numD)]) (.tup [.non, .bl true]) = some (.tup [.str m.s, .tup [numD x, numD y, numD z, numD t], numD lt, .tup (bx.map numD), .non, .bl true]) := by kernel_rfl
    have a2 : addD (.tup [.str m.s, .tup [numD x, numD y, numD z, numD t], numD lt, .tup (bx.map numD), .non, .bl true]) (.tup [odD od]) = some (Sta.D ⟨m, x, y, z, t, lt, bx, none, true, od⟩) := by kernel_rfl
    have x1 : ixD (Sta.D ⟨m, x, y, z, t, lt, bx, en, lf, od⟩) (.int 1) = some (.tup [numD x, numD y, numD z, numD t]) := by kernel_rfl
    simp only at so
    simp?! [t4_step, i1, s1, s2, a1, a2, x1, so]
    rfl
  cases l with
  | stop => exact absurd rfl hl
  | key k =>
    obtain ⟨p1, p2⟩ := x_press hs k
    have ik : d_is_key [.str (Ln.key k).s] = .ok (.bl true) := kd_is k
    have p1 : d_pressed [s.D, .str (Ln.key k).s] = .ok (pressZ s k).D := p1
    show _ = Res.ok (spD (if (pressZ s k).od.isSome = true then _ else _))
    generalize pressZ s k = s' at *
    obtain ⟨m, x, y, z, t, lt, bx, en, lf, od⟩ := s'
    have x6 : ixD (Sta.D ⟨m, x, y, z, t, lt, bx, en, lf, od⟩) (.int 6) = some (odD od) := by kernel_rfl
    cases od with
    | none =>
      have n1 : isNotN (odD none) .non = some (.bl false) := rfl
      show _ = Res.ok (spD (_, _, _))
      simp?! [t3_step, ik, p1, x6, n1]
      rfl
    | some b =>
      have n1 : isNotN (odD (some b)) .non = some (.bl true) := by cases b <;> rfl
      show _ = Res.ok (spD (_, _, _))
      simp?! [t3_step, ik, p1, x6, n1]
      rfl
  | mark n =>
    have k1 : d_is_key [.str (Ln.mark n).s] = .ok (.bl false) := by rcases fin3' n with rfl | rfl | rfl <;> kernel_rfl
    have k2 : inD (.str (Ln.mark n).s) (.tup [.str "less", .str "same", .str "nought"]) = some (.bl false) := by rcases fin3' n with rfl | rfl | rfl <;> kernel_rfl
    have k3 : startsD (.str (Ln.mark n).s) [.str "mark"] = some (.bl true) := by rcases fin3' n with rfl | rfl | rfl <;> kernel_rfl
    rw [hk k1, ht k2]
    simp?! [t5_step, met_def, metR_ok, k3]
    rfl
  | less =>
    have k1 : d_is_key [.str Ln.less.s] = .ok (.bl false) := by kernel_rfl
    rw [hk k1]
    exact htest (.inl rfl)
  | same =>
    have k1 : d_is_key [.str Ln.same.s] = .ok (.bl false) := by kernel_rfl
    rw [hk k1]
    exact htest (.inr (.inl rfl))
  | nought =>
    have k1 : d_is_key [.str Ln.nought.s] = .ok (.bl false) := by kernel_rfl
    rw [hk k1]
    exact htest (.inr (.inr rfl))
  | go n =>
    have k1 : d_is_key [.str (Ln.go n).s] = .ok (.bl false) := by rcases fin3' n with rfl | rfl | rfl <;> kernel_rfl
    have k2 : inD (.str (Ln.go n).s) (.tup [.str "less", .str "same", .str "nought"]) = some (.bl false) := by rcases fin3' n with rfl | rfl | rfl <;> kernel_rfl
    have k3 : startsD (.str (Ln.go n).s) [.str "mark"] = some (.bl false) := by rcases fin3' n with rfl | rfl | rfl <;> kernel_rfl
    have ld := x_led (s := s.D) hp.l h1 h2 (.inr (.inl ⟨n, rfl⟩))
    rw [hk k1, ht k2]
    have e1 : ledZ pr p (.go n) = (goalZ pr n).map fun g => ⟨g, p.cs⟩ := rfl
    have e2 : lnZ pr s p (.go n) = match goalZ pr n with | none => (s, p, .lost) | some g => (s, ⟨g, p.cs⟩, .on) := rfl
    rw [e1] at ld
    rw [e2]
    cases e : goalZ pr n with
    | none =>
      rw [e] at ld
      have n1 : isN (pcD ((none : Option Int).map fun g => ⟨g, p.cs⟩)) .non = some (.bl true) := rfl
      simp?! [t5_step, t6_step, t7_step, met_def, metR_ok, k3, ld, n1]
      rfl
    | some g =>
      rw [e] at ld
      have n1 : isN (pcD ((some g).map fun g => ⟨g, p.cs⟩)) .non = some (.bl false) := rfl
      simp?! [t5_step, t6_step, t7_step, t8_step, met_def, metR_ok, k3, ld, n1]
      rfl
  | call n =>
    have k1 : d_is_key [.str (Ln.call n).s] = .ok (.bl false) := by rcases fin3' n with rfl | rfl | rfl <;> kernel_rfl
    have k2 : inD (.str (Ln.call n).s) (.tup [.str "less", .str "same", .str "nought"]) = some (.bl false) := by rcases fin3' n with rfl | rfl | rfl <;> kernel_rfl
    have k3 : startsD (.str (Ln.call n).s) [.str "mark"] = some (.bl false) := by rcases fin3' n with rfl | rfl | rfl <;> kernel_rfl
    have ld := x_led (s := s.D) hp.l h1 h2 (.inr (.inr ⟨n, rfl⟩))
    rw [hk k1, ht k2]
    have e1 : ledZ pr p (.call n) = (goalZ pr n).bind fun g => if p.cs.length = 4 then none else some ⟨g, p.cs ++ [p.ln + 1]⟩ := rfl
    have e2 : lnZ pr s p (.call n) = match goalZ pr n with | none => (s, p, .lost) | some g => if p.cs.length = 4 then (s, p, .lost) else (s, ⟨g, p.cs ++ [p.ln + 1]⟩, .on) := rfl
    rw [e1] at ld
    rw [e2]
    have n1 : isN (pcD none) .non = some (.bl true) := rfl
    have n2 : ∀ q : Pc, isN (pcD (some q)) .non = some (.bl false) := fun _ => rfl
    cases e : goalZ pr n with
    | none =>
      rw [e] at ld
      have ld : d_led [.pro (pr.map Ln.s), s.D, p.D] = .ok (pcD none) := ld
      simp?! [t5_step, t6_step, t7_step, met_def, metR_ok, k3, ld, n1]
      rfl
    | some g =>
      rw [e] at ld
      have ld : d_led [.pro (pr.map Ln.s), s.D, p.D] = .ok (pcD (if p.cs.length = 4 then none else some ⟨g, p.cs ++ [p.ln + 1]⟩)) := ld
      by_cases c4 : p.cs.length = 4
      · rw [if_pos c4] at ld
        simp only [if_pos c4]
        simp?! [t5_step, t6_step, t7_step, met_def, metR_ok, k3, ld, n1]
        rfl
      · rw [if_neg c4] at ld
        simp only [if_neg c4]
        simp?! [t5_step, t6_step, t7_step, t8_step, met_def, metR_ok, k3, ld, n2]
        rfl
  | back =>
    have k1 : d_is_key [.str Ln.back.s] = .ok (.bl false) := by kernel_rfl
    have k2 : inD (.str Ln.back.s) (.tup [.str "less", .str "same", .str "nought"]) = some (.bl false) := by kernel_rfl
    have k3 : startsD (.str Ln.back.s) [.str "mark"] = some (.bl false) := by kernel_rfl
    have ld := x_led (s := s.D) hp.l h1 h2 (.inl rfl)
    rw [hk k1, ht k2]
    have e1 : ledZ pr p .back = p.cs.getLast?.map fun g => ⟨g, p.cs.dropLast⟩ := rfl
    have e2 : lnZ pr s p .back = match p.cs.getLast? with | none => (s, p, .lost) | some g => (s, ⟨g, p.cs.dropLast⟩, .on) := rfl
    rw [e1] at ld
    rw [e2]
    have n1 : isN (pcD none) .non = some (.bl true) := rfl
    have n2 : ∀ q : Pc, isN (pcD (some q)) .non = some (.bl false) := fun _ => rfl
    cases e : p.cs.getLast? with
    | none =>
      rw [e] at ld
      have ld : d_led [.pro (pr.map Ln.s), s.D, p.D] = .ok (pcD none) := ld
      simp?! [t5_step, t6_step, t7_step, met_def, metR_ok, k3, ld, n1]
      rfl
    | some g =>
      rw [e] at ld
      have ld : d_led [.pro (pr.map Ln.s), s.D, p.D] = .ok (pcD (some ⟨g, p.cs.dropLast⟩)) := ld
      simp?! [t5_step, t6_step, t7_step, t8_step, met_def, metR_ok, k3, ld, n2]
      rfl
theorem x_step {pr : List Ln} {s : Sta} {p : Pc} (hs : s.Ok) (hp : p.Ok) : d_step [.pro (pr.map Ln.s), s.D, p.D] = .ok (spD (stepZ pr s p)) := by
  have ll : lenP [.pro (pr.map Ln.s)] = some (.int (pr.length : Int)) := by
    show some (D.int ((pr.map Ln.s).length : Int)) = _
    rw [List.length_map]
  have eD : p.D = .tup [.int p.ln, .tup (p.cs.map D.int)] := rfl
  have key : d_step [.pro (pr.map Ln.s), s.D, p.D] = finR (t1_step [.z (.pro (pr.map Ln.s)), .z s.D, .z p.D, .z (.int p.ln), .z (.tup (p.cs.map D.int)), .u, .u, .u]) := by
    simp?! [v_step, g_step, eD]
  rw [key]
  unfold stepZ
  by_cases c : 0 ≤ p.ln ∧ p.ln < pr.length
  · rw [if_pos c]
    have ec : (decide (0 ≤ p.ln) && decide (p.ln < (pr.length : Int))) = true := by simp [c.1, c.2]
    obtain ⟨l, hl⟩ : ∃ l, pr.getD p.ln.toNat .stop = l := ⟨_, rfl⟩
    have ix : ixP (.pro (pr.map Ln.s)) (.int p.ln) = some (.str l.s) := by
      show (atI (pr.map Ln.s) p.ln).map D.str = _
      unfold atI ixN
      rw [if_pos c.1, if_pos (by rw [List.length_map]; exact c.2)]
      simp only [Option.bind_some]
      rw [List.getElem?_map]
      have hl := hl
      rw [List.getD_eq_getElem?_getD] at hl
      rw [List.getElem?_eq_getElem (by omega)] at hl ⊢
      rw [← hl]; rfl
    rw [hl]
    by_cases cs : l = .stop
    · subst cs
      have e1 : (Ln.stop.s == Str.ofString "stop") = true := by decide +kernel
      simp?! [t1_step, chn_def, ll, ec, ix, e1]
      rfl
    · have e1 : (l.s == Str.ofString "stop") = false := by
        cases l with
        | stop => exact absurd rfl cs
        | key k =>
          cases k with
          | fig i => rcases fin10 i with e | e | e | e | e | e | e | e | e | e <;> subst e <;> decide +kernel
          | put i => rcases fin10 i with e | e | e | e | e | e | e | e | e | e <;> subst e <;> decide +kernel
          | get i => rcases fin10 i with e | e | e | e | e | e | e | e | e | e <;> subst e <;> decide +kernel
          | dd w => cases w <;> decide +kernel
          | _ => decide +kernel
        | mark n => rcases fin3' n with rfl | rfl | rfl <;> decide +kernel
        | go n => rcases fin3' n with rfl | rfl | rfl <;> decide +kernel
        | call n => rcases fin3' n with rfl | rfl | rfl <;> decide +kernel
        | _ => decide +kernel
      have fin := x_ln hs hp c hl cs
      have key2 : finR (t1_step [.z (.pro (pr.map Ln.s)), .z s.D, .z p.D, .z (.int p.ln), .z (.tup (p.cs.map D.int)), .u, .u, .u]) = finR (t3_step [.z (.pro (pr.map Ln.s)), .z s.D, .z p.D, .z (.int p.ln), .z (.tup (p.cs.map D.int)), .z (.str l.s), .u, .u]) := by
        simp?! [t1_step, t2_step, chn_def, ll, ec, ix, e1]
      rw [key2, fin]
  · rw [if_neg c]
    have ec : (decide (0 ≤ p.ln) && decide (p.ln < (pr.length : Int))) = false := by
      cases h : (decide (0 ≤ p.ln) && decide (p.ln < (pr.length : Int))) with
      | false => rfl
      | true =>
        rw [Bool.and_eq_true, decide_eq_true_eq, decide_eq_true_eq] at h
        exact absurd h c
    simp?! [t1_step, chn_def, ll, ec]
    rfl
theorem step_ok {pr : List Ln} {s : Sta} {p : Pc} (hs : s.Ok) (hp : p.Ok) : (stepZ pr s p).1.Ok ∧ (stepZ pr s p).2.1.Ok := by
  unfold stepZ
  split
  · exact lnZ_ok hs hp _
  · exact ⟨hs, hp⟩
/-! go -/
theorem rngD_succ {lo : Int} {n : Nat} : rngD lo (n + 1) = .int lo :: rngD (lo + 1) n := by
  unfold rngD
  rw [List.range_succ_eq_map, List.map_cons, List.map_map]
  congr 1
  · simp
  · apply List.map_congr_left
    intro a _
    show D.int (lo + ((a + 1 : Nat) : Int)) = D.int (lo + 1 + (a : Int))
    congr 1
    omega
theorem asg3 {a b c : D} {i j k : Nat} {ρ : Rho} : asgR (.ok (.tup [a, b, c])) ρ (gt 3 (gsc (gn i) (gsc (gn j) (gsc (gn k) gsn)))) = .nx (((ρ.set i (.z a)).set j (.z b)).set k (.z c)) := rfl
theorem on_iff (h : How) : (h.s == Str.ofString "on") = decide (h = .on) := by cases h <;> decide +kernel
theorem pc_plain (p : Pc) (n : Nat) : DN.plain (n + 2) p.D = true := by
  have : ∀ (l : List Int), DN.plains n (l.map D.int) = true := by
    intro l
    induction l with
    | nil => rfl
    | cons a l ih => show (DN.plain n (.int a) && DN.plains n (l.map D.int)) = true; rw [ih]; cases n <;> rfl
  show (true && (DN.plains n (p.cs.map D.int) && true)) = true
  rw [this]; rfl
/-! drawn programs -/
def menuL : List Ln := [.mark 0, .mark 1, .mark 2, .go 0, .go 1, .go 2, .call 0, .call 1, .call 2, .back, .stop, .less, .same, .nought, .nought, .less, .key (.fig 1), .key (.fig 2), .key .enter, .key (.dd .plus), .key (.dd .minus), .key (.dd .times), .key .swap, .key .roll, .key (.put 0),
  .key (.get 0), .key .sign, .key (.dd .minus), .key (.dd .over), .key (.put 1), .key (.get 1), .key .clear]
theorem lline_list (n : Int) : g__law_line [.z (.int n), .u] = t2__law_line [.z (.int n), .z (.lst ((menuL.take 25).map fun l => D.str l.s))] := by kernel_rfl
theorem lline_last (n : Int) : bop addD (var 1) (mkL (acons (con (.str "get0")) (acons (con (.str "sign")) (acons (con (.str "minus")) (acons (con (.str "over")) (acons (con (.str "put1")) (acons (con (.str "get1")) (acons (con (.str "clear")) anil)))))))) [.z (.int n), .z (.lst ((menuL.take 25).map fun l => D.str l.s))] = .ok (.lst (menuL.map fun l => D.str l.s)) := by kernel_rfl
theorem x_lln {n : Int} : ∃ l : Ln, d__law_line [.int n] = .ok (.str l.s) := by
  have md : bop modD (var 0) (con (.int 32)) [.z (.int n), .z (.lst ((menuL.take 25).map fun l => D.str l.s))] = .ok (.int (n % 32)) := by simp?! []
  have hn : (n % 32).toNat < menuL.length := by have : menuL.length = 32 := rfl; omega
  refine ⟨menuL[(n % 32).toNat], ?_⟩
  rw [v__law_line, lline_list]
  unfold t2__law_line
  rw [sret_def, bin_def, lline_last, md, app2_ok, ix_lm (by rw [List.length_map]; decide), ofO_some, retR_ok, finR_rt]
  congr 1
  rw [List.getD_eq_getElem?_getD, List.getElem?_map, List.getElem?_eq_getElem hn]
  rfl
theorem x_lpro {n m : Int} (h0 : 0 ≤ m) (h1 : m < 100) : ∃ pr : List Ln, (pr.length : Int) ≤ m ∧ d__law_program_v2 [.int n, .int m] = .ok (.pro (pr.map Ln.s)) := by
  have md : modD (.int n) (.int (m + 1)) = some (.int (n % (m + 1))) := mod_p (by omega)
  have q0 : 0 ≤ n % (m + 1) := Int.emod_nonneg _ (by omega)
  have q1 : n % (m + 1) < m + 1 := Int.emod_lt_of_pos _ (by omega)
  generalize n % (m + 1) = k at *
  have q : acons (bop modD (var 0) (bop addD (var 1) (con (.int 1)))) anil [.z (.int n), .z (.int m), .u] = .ok [.int k] := by simp?! [md]
  have e := rng1_eq q q0 (by omega)
  obtain ⟨pr, l1, l2⟩ := comp_map (f := fun l : Ln => D.str l.s) (i := 2) (e := e1__law_program_v2) (ρ := [.z (.int n), .z (.int m), .u]) (rngD 0 k.toNat) (by
    intro d hd
    obtain ⟨j, hj, rfl⟩ := rngD_mem hd
    obtain ⟨dr, d1, d2, d3⟩ := x_drawn (n := n) (k := (j : Int)) (by omega) (by omega)
    obtain ⟨l, hl⟩ := x_lln (n := dr / 4)
    exact ⟨l, by simp?! [e1__law_program_v2, d1, hl]⟩)
  rw [rngD_len] at l1
  refine ⟨pr, by omega, ?_⟩
  have lc := lc_eq (t := yes) (e := e1__law_program_v2) (i := 2) e (by rw [rngD_len]; omega) l2
  have tp : tupP [.lst (pr.map fun l => D.str l.s)] = some (.pro (pr.map Ln.s)) := by
    show (strsOf (pr.map fun l => D.str l.s)).map D.pro = _
    have : (pr.map fun l => D.str l.s) = (pr.map Ln.s).map D.str := by rw [List.map_map]; rfl
    rw [this, strsOf_map]
    rfl
  simp?! [v__law_program_v2, g__law_program_v2, lc, tp]
/-! ### k34: rings -/
theorem num_dec (i j : Int) : decide (NestedKey.num i = NestedKey.num j) = (i == j) := by
  by_cases h : i = j <;> simp [h]
mutual
theorem key_eqd : ∀ {d e : D} {n m : NestedKey}, D.key d = some n → D.key e = some m → eqd d e = decide (n = m)
  | .non, e, n, m, h1, h2 => by
    simp only [D.key] at h1
    cases h1
    cases e <;> simp [D.key] at h2 <;> first | (subst h2; simp [eqd]) | (obtain ⟨_, _, rfl⟩ := h2; simp [eqd])
  | .bl a, e, n, m, h1, h2 => by
    simp only [D.key] at h1
    cases h1
    cases e <;> simp [D.key] at h2 <;> first | (subst h2; simp only [eqd, num_dec]; done) | (subst h2; simp only [eqd, num_dec]; rename_i b; cases a <;> cases b <;> rfl) | (subst h2; simp [eqd]; done) | (obtain ⟨_, _, rfl⟩ := h2; simp [eqd])
  | .int i, e, n, m, h1, h2 => by
    simp only [D.key] at h1
    cases h1
    cases e <;> simp [D.key] at h2 <;> first | (subst h2; simp only [eqd, num_dec]; done) | (subst h2; simp [eqd]; done) | (obtain ⟨_, _, rfl⟩ := h2; simp [eqd])
  | .str x, e, n, m, h1, h2 => by
    simp only [D.key] at h1
    cases h1
    cases e <;> simp [D.key] at h2 <;> first | (subst h2; rename_i y; simp only [eqd]; by_cases hq : x = y <;> simp [hq]) | (subst h2; simp [eqd]) | (obtain ⟨_, _, rfl⟩ := h2; simp [eqd])
  | .tup xs, e, n, m, h1, h2 => by
    simp only [D.key] at h1
    obtain ⟨ns, hn, rfl⟩ := Option.map_eq_some_iff.mp h1
    cases e with
    | tup ys =>
      simp only [D.key] at h2
      obtain ⟨ms, hm, rfl⟩ := Option.map_eq_some_iff.mp h2
      simp only [eqd]
      rw [keys_eqd hn hm]
      by_cases hq : ns = ms <;> simp [hq]
    | _ => simp [D.key] at h2 <;> (subst h2; simp [eqd])
  | .lst _, _, _, _, h1, _ => by simp [D.key] at h1
  | .fn _, _, _, _, h1, _ => by simp [D.key] at h1
  | .ty _, _, _, _, h1, _ => by simp [D.key] at h1
  | .dK _, _, _, _, h1, _ => by simp [D.key] at h1
  | .dT _, _, _, _, h1, _ => by simp [D.key] at h1
  | .arr _, _, _, _, h1, _ => by simp [D.key] at h1
  | .pro _, _, _, _, h1, _ => by simp [D.key] at h1
  | .dic _ _ _ _, _, _, _, h1, _ => by simp [D.key] at h1
  | .adr _, _, _, _, h1, _ => by simp [D.key] at h1
  | .ins _ _ _, _, _, _, h1, _ => by simp [D.key] at h1
theorem keys_eqd : ∀ {ds es : List D} {ns ms : List NestedKey}, D.keys ds = some ns → D.keys es = some ms → eqds ds es = decide (ns = ms)
  | [], es, ns, ms, h1, h2 => by
    simp only [D.keys] at h1
    cases h1
    cases es with
    | nil => simp only [D.keys] at h2; cases h2; simp [eqds]
    | cons e es =>
      simp only [D.keys] at h2
      obtain ⟨k, hk, h⟩ := Option.bind_eq_some_iff.mp h2
      obtain ⟨ks, hks, rfl⟩ := Option.map_eq_some_iff.mp h
      simp [eqds]
  | d :: ds, es, ns, ms, h1, h2 => by
    simp only [D.keys] at h1
    obtain ⟨k, hk, h⟩ := Option.bind_eq_some_iff.mp h1
    obtain ⟨ks, hks, rfl⟩ := Option.map_eq_some_iff.mp h
    cases es with
    | nil => simp only [D.keys] at h2; cases h2; simp [eqds]
    | cons e es =>
      simp only [D.keys] at h2
      obtain ⟨k2, hk2, h⟩ := Option.bind_eq_some_iff.mp h2
      obtain ⟨ks2, hks2, rfl⟩ := Option.map_eq_some_iff.mp h
      simp only [eqds]
      rw [key_eqd hk hk2, keys_eqd hks hks2]
      by_cases q1 : k = k2 <;> by_cases q2 : ks = ks2 <;> simp [q1, q2]
end
abbrev SP := Sta × Pc
def spd (q : SP) : D := .tup [q.1.D, q.2.D]
def numN (s : Int × Int) : NestedKey := .tup [.num s.1, .num s.2]
def enN : Option Ent → NestedKey
  | none => .none
  | some e => .text (S e.L)
def odN : Option Bool → NestedKey
  | none => .none
  | some false => .text "deed"
  | some true => .text "great"
def staN (s : Sta) : NestedKey := .tup [.text s.m.s, .tup [numN s.x, numN s.y, numN s.z, numN s.t], numN s.l, .tup (s.bx.map numN), enN s.en, .num (if s.lf = true then 1 else 0), odN s.od]
def pcN (p : Pc) : NestedKey := .tup [.num p.ln, .tup (p.cs.map .num)]
def spN (q : SP) : NestedKey := .tup [staN q.1, pcN q.2]
theorem num_key (s : Int × Int) : D.key (numD s) = some (numN s) := by simp [numD, numN, D.key, D.keys]
theorem nums_key : ∀ l : List (Int × Int), D.keys (l.map numD) = some (l.map numN)
  | [] => rfl
  | s :: l => by simp [D.keys, num_key, nums_key l]
theorem ints_key : ∀ l : List Int, D.keys (l.map D.int) = some (l.map NestedKey.num)
  | [] => rfl
  | s :: l => by simp [D.keys, D.key, ints_key l]
theorem en_key (e : Option Ent) : D.key (enD e) = some (enN e) := by cases e <;> simp [enD, enN, D.key]
theorem od_key (e : Option Bool) : D.key (odD e) = some (odN e) := by
  rcases e with _ | _ | _ <;> simp [odD, odN, D.key]
theorem sta_key (s : Sta) : D.key s.D = some (staN s) := by
  simp [Sta.D, staN, D.key, D.keys, num_key, nums_key, en_key, od_key, numN]
theorem pc_key (p : Pc) : D.key p.D = some (pcN p) := by simp [Pc.D, pcN, D.key, D.keys, ints_key]
theorem sp_key (q : SP) : D.key (spd q) = some (spN q) := by simp [spd, spN, D.key, D.keys, sta_key, pc_key]
theorem num_depth (s : Int × Int) : (numN s).depth = 1 := by simp [numN, NestedKey.depth, NestedKey.depthAll]
theorem nums_depth : ∀ l : List (Int × Int), NestedKey.depthAll (l.map numN) ≤ 1
  | [] => by simp [NestedKey.depthAll]
  | s :: l => by
    have := nums_depth l
    simp only [List.map_cons, NestedKey.depthAll, num_depth]; omega
theorem ints_depth : ∀ l : List Int, NestedKey.depthAll (l.map NestedKey.num) ≤ 0
  | [] => by simp [NestedKey.depthAll]
  | s :: l => by
    have := ints_depth l
    simp only [List.map_cons, NestedKey.depthAll, NestedKey.depth]; omega
theorem en_depth (e : Option Ent) : (enN e).depth = 0 := by cases e <;> simp [enN, NestedKey.depth]
theorem od_depth (e : Option Bool) : (odN e).depth = 0 := by rcases e with _ | _ | _ <;> simp [odN, NestedKey.depth]
theorem sp_depth (q : SP) : (spN q).depth ≤ 8 := by
  have h1 := nums_depth q.1.bx
  have h2 := ints_depth q.2.cs
  simp only [spN, staN, pcN, NestedKey.depth, NestedKey.depthAll, num_depth, en_depth, od_depth]
  omega
theorem sp_keyD (q : SP) : keyD (spd q) = some (spN q) := by
  have h := sp_key q
  unfold spd at h ⊢
  simp only [keyD]
  rw [h]
  simp [sp_depth q]
theorem sp_eqd (q r : SP) : eqd (spd q) (spd r) = decide (spN q = spN r) := key_eqd (sp_key q) (sp_key r)
/-- the first place of q in L -/
def ixOf (L : List SP) (q : SP) : Option Nat := L.findIdx? fun r => decide (spN r = spN q)
theorem find_of (q : SP) : ∀ (L : List SP) (o : Int), dfind (L.map spd) (rngD o L.length) (spN q) = (ixOf L q).map fun (j : Nat) => D.int (o + (j : Int))
  | [], o => rfl
  | r :: L, o => by
    have ih := find_of q L (o + 1)
    rw [List.map_cons, List.length_cons, rngD_succ]
    unfold dfind ixOf
    rw [List.findIdx?_cons, sp_key]
    by_cases h : spN r = spN q
    · simp [h]
    · have h2 : ¬ (some (spN r) = some (spN q)) := fun z => h (Option.some.inj z)
      rw [if_neg h2, ih]
      simp only [h, decide_false, ixOf]
      cases (List.findIdx? (fun r => decide (spN r = spN q)) L) with
      | none => rfl
      | some j => simp; omega
theorem rngD_snoc (n : Nat) : rngD 0 (n + 1) = rngD 0 n ++ [.int (n : Int)] := by
  unfold rngD
  rw [List.range_succ, List.map_append]
  simp
/-- what is told: the first place, how far round -/
def ringR (pr : List Ln) : Nat → Nat → List SP → SP → Option (Nat × Int)
  | 0, _, _, _ => none
  | n + 1, c, L, cur => if (stepZ pr cur.1 cur.2).2.2 = .on then (match ixOf L ((stepZ pr cur.1 cur.2).1, (stepZ pr cur.1 cur.2).2.1) with
    | some j => some (j, (c : Int) - (j : Int))
    | none => ringR pr n (c + 1) (L ++ [((stepZ pr cur.1 cur.2).1, (stepZ pr cur.1 cur.2).2.1)]) ((stepZ pr cur.1 cur.2).1, (stepZ pr cur.1 cur.2).2.1)) else none
def ringD : Option (Nat × Int) → D
  | none => .non
  | some (j, k) => .tup [.int (j : Int), .int k]
section
variable {P : Program} {w : World}
abbrev dicL (P : Program) (w : World) (L : List SP) : En := .o (.dic P w (L.map spd) (rngD 0 L.length))
theorem findR_sp (L : List SP) (q : SP) : findR (L.map spd, rngD 0 L.length) (spd q) = .ok ((ixOf L q).map fun (j : Nat) => D.int (j : Int)) := by
  unfold findR
  rw [sp_keyD]
  show Res.ok (dfind (L.map spd) (rngD 0 L.length) (spN q)) = _
  rw [find_of q L 0]
  simp
theorem in_ev {i : Nat} {fk : Rho → Res D} {ρ : Rho} {L : List SP} {q : SP} (hk : fk ρ = .ok (spd q)) (hd : ρ[i]? = some (dicL P w L)) : inN P w i fk ρ = .ok (ixOf L q).isSome := by
  unfold inN
  rw [hk, dicR_def hd]
  show (findR (L.map spd, rngD 0 L.length) (spd q)).bind _ = _
  rw [findR_sp]
  show Res.ok ((ixOf L q).map _).isSome = _
  rw [Option.isSome_map]
theorem ix_ev {i : Nat} {fk : Rho → Res D} {ρ : Rho} {L : List SP} {q : SP} {j : Nat} (hk : fk ρ = .ok (spd q)) (hd : ρ[i]? = some (dicL P w L)) (hj : ixOf L q = some j) : ixNd P w i fk ρ = .ok (.int (j : Int)) := by
  unfold ixNd
  rw [dicR_def hd]
  show (fk ρ).bind _ = _
  rw [hk]
  show (findR (L.map spd, rngD 0 L.length) (spd q)).bind _ = _
  rw [findR_sp, hj]
  rfl
theorem put_ev {i : Nat} {fk fe : Rho → Res D} {ρ : Rho} {L : List SP} {q : SP} (he : fe ρ = .ok (.int (L.length : Int))) (hk : fk ρ = .ok (spd q)) (hd : ρ[i]? = some (dicL P w L)) (hj : ixOf L q = none) (hl : L.length < 1000) : sputN P w i fk fe ρ = .nx (ρ.set i (dicL P w (L ++ [q]))) := by
  unfold sputN
  rw [he]
  show bindS (dicR P w i ρ) ρ _ = _
  rw [dicR_def hd]
  show bindS (fk ρ) ρ _ = _
  rw [hk]
  show putR P w i ρ (L.map spd, rngD 0 L.length) (spd q) (.int (L.length : Int)) = _
  unfold putR
  rw [sp_keyD]
  have hf : dfind (L.map spd) (rngD 0 L.length) (spN q) = none := by rw [find_of q L 0, hj]; rfl
  have sl := sizeLine_eq
  have hd : dput (L.map spd) (rngD 0 L.length) (spN q) (spd q) (.int (L.length : Int)) = ((L ++ [q]).map spd, rngD 0 (L ++ [q]).length) := by
    unfold dput
    rw [hf]
    simp [rngD_snoc]
  show (if (L.map spd).length < sizeLine then SR.nx (ρ.set i (.o (.dic P w (dput (L.map spd) (rngD 0 L.length) (spN q) (spd q) (.int (L.length : Int))).1 (dput (L.map spd) (rngD 0 L.length) (spN q) (spd q) (.int (L.length : Int))).2))) else .bad) = _
  rw [if_pos (by rw [List.length_map]; omega), hd]
abbrev R7 (P : Program) (w : World) (pr : List Ln) (m : D) (L : List SP) (s : Sta) (p : Pc) (e f : En) : Rho := [.z (.pro (pr.map Ln.s)), .z s.D, .z m, .z p.D, dicL P w L, e, f]
theorem ring_loop {pr : List Ln} {m : D} (n : Nat) : ∀ (L : List SP) (s : Sta) (p : Pc) (e f : En), s.Ok → p.Ok → L.length + n < 900 →
    (ringR pr n L.length L (s, p) = none ∧ ∃ ρ', loopD (gn 5) (b1_ring P w) (rngD (L.length : Int) n) (R7 P w pr m L s p e f) = .nx ρ') ∨
    loopD (gn 5) (b1_ring P w) (rngD (L.length : Int) n) (R7 P w pr m L s p e f) = .rt (ringD (ringR pr n L.length L (s, p))) := by
  induction n with
  | zero => exact fun L s p e f _ _ _ => .inl ⟨rfl, _, rfl⟩
  | succ n ih =>
    intro L s p e f hs hp hl
    have st := x_step (pr := pr) hs hp
    obtain ⟨o1, o2⟩ := step_ok (pr := pr) hs hp
    have gE : ringR pr (n + 1) L.length L (s, p) = if (stepZ pr s p).2.2 = .on then (match ixOf L ((stepZ pr s p).1, (stepZ pr s p).2.1) with
      | some j => some (j, (L.length : Int) - (j : Int))
      | none => ringR pr n (L.length + 1) (L ++ [((stepZ pr s p).1, (stepZ pr s p).2.1)]) ((stepZ pr s p).1, (stepZ pr s p).2.1)) else none := rfl
    rw [gE, rngD_succ]
    generalize stepZ pr s p = r at *
    obtain ⟨s', p', h⟩ := r
    have st : d_step [.pro (pr.map Ln.s), s.D, p.D] = .ok (.tup [s'.D, p'.D, .str h.s]) := st
    have oi := on_iff h
    have g1 : gn 5 (R7 P w pr m L s p e f) (.int (L.length : Int)) = some (R7 P w pr m L s p (.z (.int (L.length : Int))) f) := rfl
    have k1 : mkT (acons (var 1) (acons (var 3) anil)) (R7 P w pr m L s' p' (.z (.int (L.length : Int))) (.z (.str h.s))) = .ok (spd (s', p')) := by
      simp?! [spd]
    have d1 : (R7 P w pr m L s' p' (.z (.int (L.length : Int))) (.z (.str h.s)))[4]? = some (dicL P w L) := rfl
    have i1 := in_ev (P := P) (w := w) k1 d1
    by_cases q : h = .on
    · have q' : (s', p', h).2.2 = .on := q
      rw [if_pos q']
      rw [decide_eq_true q] at oi
      show ((match ixOf L (s', p') with
        | some j => some (j, (L.length : Int) - (j : Int))
        | none => ringR pr n (L.length + 1) (L ++ [(s', p')]) (s', p')) = none ∧ _) ∨ _ = SR.rt (ringD (match ixOf L (s', p') with
        | some j => some (j, (L.length : Int) - (j : Int))
        | none => ringR pr n (L.length + 1) (L ++ [(s', p')]) (s', p')))
      cases hx : ixOf L (s', p') with
      | some j =>
        rw [hx] at i1
        have i1 : inN P w 4 (mkT (acons (var 1) (acons (var 3) anil))) (R7 P w pr m L s' p' (.z (.int (L.length : Int))) (.z (.str h.s))) = .ok true := i1
        have i2 := ix_ev (P := P) (w := w) k1 d1 hx
        have hb : b1_ring P w (R7 P w pr m L s p (.z (.int (L.length : Int))) f) = .rt (ringD (some (j, (L.length : Int) - (j : Int)))) := by
          simp?! [b1_ring, R7, st, asg3, oi, i1, i2, ringD]
        exact .inr (loop_ret g1 hb)
      | none =>
        rw [hx] at i1
        have i1 : inN P w 4 (mkT (acons (var 1) (acons (var 3) anil))) (R7 P w pr m L s' p' (.z (.int (L.length : Int))) (.z (.str h.s))) = .ok false := i1
        have i3 : sputN P w 4 (mkT (acons (var 1) (acons (var 3) anil))) (var 5) (R7 P w pr m L s' p' (.z (.int (L.length : Int))) (.z (.str h.s))) = .nx (R7 P w pr m (L ++ [(s', p')]) s' p' (.z (.int (L.length : Int))) (.z (.str h.s))) := put_ev rfl k1 d1 hx (by omega)
        have hb : b1_ring P w (R7 P w pr m L s p (.z (.int (L.length : Int))) f) = .nx (R7 P w pr m (L ++ [(s', p')]) s' p' (.z (.int (L.length : Int))) (.z (.str h.s))) := by
          simp?! [b1_ring, R7, st, asg3, oi, i1, i3]
        rw [loop_cons g1 hb]
        have il := ih (L ++ [(s', p')]) s' p' (.z (.int (L.length : Int))) (.z (.str h.s)) o1 o2 (by rw [List.length_append]; simp; omega)
        have e1 : (L ++ [(s', p')]).length = L.length + 1 := by simp
        rw [e1] at il
        have e2 : ((L.length + 1 : Nat) : Int) = (L.length : Int) + 1 := by omega
        rw [e2] at il
        exact il
    · have q' : ¬ (s', p', h).2.2 = .on := q
      rw [if_neg q']
      rw [decide_eq_false q] at oi
      have hb : b1_ring P w (R7 P w pr m L s p (.z (.int (L.length : Int))) f) = .rt .non := by
        simp?! [b1_ring, R7, st, asg3, oi]
      exact .inr (loop_ret g1 hb)
end

theorem x_ring {P : Program} {w : World} {pr : List Ln} {s : Sta} {k : Int} (h0 : 0 ≤ k) (h1 : k < 800) (hs : s.Ok) : d_ring P w [.pro (pr.map Ln.s), s.D, .int k] = .ok (ringD (ringR pr k.toNat 1 [(s, ⟨0, []⟩)] (s, ⟨0, []⟩))) := by
  have op : Pc.Ok ⟨0, []⟩ := ⟨by simp⟩
  have k1 : mkT (acons (var 1) (acons (var 3) anil)) [.z (.pro (pr.map Ln.s)), .z s.D, .z (.int k), .z (Pc.D ⟨0, []⟩), .u, .u, .u] = .ok (spd (s, ⟨0, []⟩)) := by simp?! [spd]
  have e1 : sownN P w (mkT (acons (var 1) (acons (var 3) anil))) (con (.int 0)) 4 [.z (.pro (pr.map Ln.s)), .z s.D, .z (.int k), .z (Pc.D ⟨0, []⟩), .u, .u, .u] = .nx (R7 P w pr (.int k) [(s, ⟨0, []⟩)] s ⟨0, []⟩ .u .u) := by
    unfold sownN
    rw [k1]
    show newR P w 4 _ (spd (s, ⟨0, []⟩)) (.int 0) = _
    unfold newR
    rw [sp_keyD]
    rfl
  have lp := ring_loop (P := P) (w := w) (pr := pr) (m := .int k) k.toNat [(s, ⟨0, []⟩)] s ⟨0, []⟩ .u .u hs op (by simp; omega)
  have q : acons (con (.int 1)) (acons (bop addD (var 2) (con (.int 1))) anil) (R7 P w pr (.int k) [(s, ⟨0, []⟩)] s ⟨0, []⟩ .u .u) = .ok [.int 1, .int (k + 1)] := by simp?! [R7]
  have rg : rng2 (acons (con (.int 1)) (acons (bop addD (var 2) (con (.int 1))) anil)) (R7 P w pr (.int k) [(s, ⟨0, []⟩)] s ⟨0, []⟩ .u .u) = .ok (rngD 1 k.toNat) := by
    unfold rng2
    rw [q]
    show (if (-(2 ^ 62) ≤ (1 : Int) ∧ (1 : Int) < 2 ^ 62) ∧ (-(2 ^ 62) ≤ k + 1 ∧ k + 1 < 2 ^ 62) then Res.ok (rngD 1 (k + 1 - 1).toNat) else .bad) = _
    rw [if_pos (by omega), show k + 1 - 1 = k by omega]
  have ez : mkT (acons (con (.int 0)) (acons (mkT anil) anil)) [.z (.pro (pr.map Ln.s)), .z s.D, .z (.int k), .u, .u, .u, .u] = .ok (Pc.D ⟨0, []⟩) := by simp?! []; rfl
  have key : d_ring P w [.pro (pr.map Ln.s), s.D, .int k] = finR (t2_ring P w (R7 P w pr (.int k) [(s, ⟨0, []⟩)] s ⟨0, []⟩ .u .u)) := by
    have e1 : sownN P w (mkT (acons (var 1) (acons (var 3) anil))) (con (.int 0)) 4 [.z (.pro (pr.map Ln.s)), .z s.D, .z (.int k), .z (.tup [.int 0, .tup []]), .u, .u, .u] = .nx (R7 P w pr (.int k) [(s, ⟨0, []⟩)] s ⟨0, []⟩ .u .u) := e1
    simp?! [v_ring, g_ring, t1_ring, e1]
  rw [key]
  rcases lp with ⟨l1, ρ', l2⟩ | l2
  · have l2 : loopD (gn 5) (b1_ring P w) (rngD 1 k.toNat) (R7 P w pr (.int k) [(s, ⟨0, []⟩)] s ⟨0, []⟩ .u .u) = _ := l2
    have l1 : ringR pr k.toNat 1 [(s, ⟨0, []⟩)] (s, ⟨0, []⟩) = none := l1
    rw [l1]
    simp?! [t2_ring, t3_ring, rg, l2]
    rfl
  · have l2 : loopD (gn 5) (b1_ring P w) (rngD 1 k.toNat) (R7 P w pr (.int k) [(s, ⟨0, []⟩)] s ⟨0, []⟩ .u .u) = .rt (ringD (ringR pr k.toNat 1 [(s, ⟨0, []⟩)] (s, ⟨0, []⟩))) := l2
    simp?! [t2_ring, rg, l2]
/-! ### the law's own way -/
abbrev R34 (a b c : En) (pr : List Ln) (d : En) (L : List SP) (due : Option (Nat × Int)) (on : Bool) (e f g h : En) : Rho := [a, b, c, .z (.pro (pr.map Ln.s)), d, .o (.lst (L.map spd)), .z (ringD due), .z (.bl on), e, f, g, h]
theorem stop34 {P : Program} {w : World} {a b c d f g h : En} {pr : List Ln} {L : List SP} {due : Option (Nat × Int)} {on : Bool} (hq : on = false ∨ due.isSome = true) : ∀ (n : Nat) (o : Int) (e : En), ∃ e', loopD (gn 8) (b1_law P w) (rngD o n) (R34 a b c pr d L due on e f g h) = .nx (R34 a b c pr d L due on e' f g h)
  | 0, o, e => ⟨e, rfl⟩
  | n + 1, o, e => by
    obtain ⟨e', ih⟩ := stop34 (P := P) (w := w) (a := a) (b := b) (c := c) (d := d) (f := f) (g := g) (h := h) (pr := pr) (L := L) hq n (o + 1) (.z (.int o))
    rw [rngD_succ]
    have g1 : gn 8 (R34 a b c pr d L due on e f g h) (.int o) = some (R34 a b c pr d L due on (.z (.int o)) f g h) := rfl
    have hb : b1_law P w (R34 a b c pr d L due on (.z (.int o)) f g h) = .nx (R34 a b c pr d L due on (.z (.int o)) f g h) := by
      cases on with
      | false => simp?! [b1_law, R34]
      | true =>
        rcases hq with hq | hq
        · cases hq
        · cases due with
          | none => cases hq
          | some jk =>
            have z : isN (ringD (some jk)) .non = some (.bl false) := rfl
            simp?! [b1_law, R34, z]
    exact ⟨e', by rw [loop_cons g1 hb]; exact ih⟩
theorem sps_plain : ∀ (L : List SP), (∀ q ∈ L, q.1.Ok) → DN.plains 60 (L.map spd) = true
  | [], _ => rfl
  | q :: L, h => by
    have h1 := st_plain (h q List.mem_cons_self) 56
    have h2 := pc_plain q.2 57
    have ih := sps_plain L fun r hr => h r (List.mem_cons_of_mem _ hr)
    show (DN.plain 60 (spd q) && DN.plains 60 (L.map spd)) = true
    rw [ih, Bool.and_true]
    show (DN.plain 59 q.1.D && (DN.plain 59 q.2.D && true)) = true
    rw [h1, h2]; rfl
theorem sp_plain {q : SP} (h : q.1.Ok) : DN.plain 60 (spd q) = true := by
  have := sps_plain [q] (by simpa using h)
  simpa [DN.plains] using this
theorem any_ix (q : SP) : ∀ L : List SP, ((L.map spd).any fun y => eqd y (spd q)) = (ixOf L q).isSome
  | [] => rfl
  | r :: L => by
    rw [List.map_cons, List.any_cons, any_ix q L, sp_eqd]
    unfold ixOf
    rw [List.findIdx?_cons]
    by_cases h : spN r = spN q <;> simp [h]
theorem in_sp {L : List SP} {q : SP} (hL : ∀ q ∈ L, q.1.Ok) (hq : q.1.Ok) : inD (spd q) (.lst (L.map spd)) = some (.bl (ixOf L q).isSome) := by
  have e : inD (spd q) (.lst (L.map spd)) = (inL (spd q) (L.map spd)).map .bl := rfl
  rw [e]
  unfold inL
  rw [if_neg (by simp [spd, flatD]), if_pos (by rw [sp_plain hq, sps_plain L hL]; rfl), any_ix]
  rfl
theorem idx_ix (q : SP) : ∀ L : List SP, ((L.map spd).findIdx? fun y => eqd y (spd q)) = ixOf L q := fun L => by
  unfold ixOf
  rw [List.findIdx?_map]
  congr 1
  funext r
  exact sp_eqd r q
theorem ixn_sp {L : List SP} {q : SP} {j : Nat} (hL : ∀ q ∈ L, q.1.Ok) (hq : q.1.Ok) (hj : ixOf L q = some j) : ixnD (.lst (L.map spd)) [spd q] = some (.int (j : Int)) := by
  show (if (DN.plain 60 (spd q) && DN.plains 60 (L.map spd)) = true then ((L.map spd).findIdx? fun y => eqd y (spd q)).map fun (j : Nat) => D.int j else none) = _
  rw [if_pos (by rw [sp_plain hq, sps_plain L hL]; rfl), idx_ix, hj]
  rfl

theorem last34 {a b c d e f g h i j k : En} {L : List SP} {q : SP} : ixO 5 (una negD (con (.int 1))) [a, b, c, d, e, .o (.lst ((L ++ [q]).map spd)), f, g, h, i, j, k] = .ok (spd q) := by
  have z : una negD (con (.int 1)) [a, b, c, d, e, .o (.lst ((L ++ [q]).map spd)), f, g, h, i, j, k] = .ok (.int (-1)) := rfl
  unfold ixO
  rw [z]
  show ofO (atI ((L ++ [q]).map spd) (-1)) = _
  unfold atI
  have hl : ((L ++ [q]).map spd).length = L.length + 1 := by simp
  have e : ixN ((L ++ [q]).map spd).length (-1) = some L.length := by
    rw [hl]
    unfold ixN
    simp
    try omega
  rw [e]
  simp [ofO]
theorem law_loop {P : Program} {w : World} {a b c d : En} {pr : List Ln} (n : Nat) : ∀ (L : List SP) (s : Sta) (p : Pc) (e f g h : En), s.Ok → p.Ok → (∀ q ∈ L, q.1.Ok) → L.length + n < 900 →
    ∃ L2 on e' f' g' h', loopD (gn 8) (b1_law P w) (rngD ((L.length + 1 : Nat) : Int) n) (R34 a b c pr d (L ++ [(s, p)]) none true e f g h) = .nx (R34 a b c pr d L2 (ringR pr n (L.length + 1) (L ++ [(s, p)]) (s, p)) on e' f' g' h') := by
  induction n with
  | zero => exact fun L s p e f g h _ _ _ _ => ⟨_, _, _, _, _, _, rfl⟩
  | succ n ih =>
    intro L s p e f g h0 hs hp hL hl
    have st := x_step (pr := pr) hs hp
    obtain ⟨o1, o2⟩ := step_ok (pr := pr) hs hp
    have gE : ringR pr (n + 1) (L.length + 1) (L ++ [(s, p)]) (s, p) = if (stepZ pr s p).2.2 = .on then (match ixOf (L ++ [(s, p)]) ((stepZ pr s p).1, (stepZ pr s p).2.1) with
      | some j => some (j, ((L.length + 1 : Nat) : Int) - (j : Int))
      | none => ringR pr n (L.length + 1 + 1) (L ++ [(s, p)] ++ [((stepZ pr s p).1, (stepZ pr s p).2.1)]) ((stepZ pr s p).1, (stepZ pr s p).2.1)) else none := rfl
    rw [gE, rngD_succ]
    generalize stepZ pr s p = r at *
    obtain ⟨s', p', h⟩ := r
    have st : d_step [.pro (pr.map Ln.s), s.D, p.D] = .ok (.tup [s'.D, p'.D, .str h.s]) := st
    have o1 : s'.Ok := o1
    have o2 : p'.Ok := o2
    have oi := on_iff h
    have hL2 : ∀ q ∈ L ++ [(s, p)], q.1.Ok := fun q hq => by
      rcases List.mem_append.mp hq with hq | hq
      · exact hL q hq
      · simp at hq; subst hq; exact hs
    obtain ⟨o, ho⟩ : ∃ o : Int, o = ((L.length + 1 : Nat) : Int) := ⟨_, rfl⟩
    have la := last34 (a := a) (b := b) (c := c) (d := .z (.pro (pr.map Ln.s))) (e := d) (f := .z (ringD none)) (g := .z (.bl true)) (h := .z (.int o)) (i := f) (j := g) (k := h0) (L := L) (q := (s, p))
    have la : ixRR (.ok ((L ++ [(s, p)]).map spd)) (.ok (.int (-1))) = .ok (.tup [s.D, p.D]) := la
    have z0 : isN (ringD none) .non = some (.bl true) := rfl
    have lm : ((L ++ [(s, p)]).map spd).length < 1000000 := by simp; omega
    have eL : (L ++ [(s, p)]).map spd ++ [.tup [s'.D, p'.D]] = (L ++ [(s, p)] ++ [(s', p')]).map spd := by simp [spd]
    have i1 := in_sp (q := (s', p')) hL2 o1
    have g1 : gn 8 (R34 a b c pr d (L ++ [(s, p)]) none true e f g h0) (.int o) = some (R34 a b c pr d (L ++ [(s, p)]) none true (.z (.int o)) f g h0) := rfl
    rw [← ho]
    by_cases q : h = .on
    · have q' : (s', p', h).2.2 = .on := q
      rw [if_pos q']
      rw [decide_eq_true q] at oi
      show ∃ L2 on e' f' g' h', _ = SR.nx (R34 a b c pr d L2 (match ixOf (L ++ [(s, p)]) (s', p') with
        | some j => some (j, o - (j : Int))
        | none => ringR pr n (L.length + 1 + 1) (L ++ [(s, p)] ++ [(s', p')]) (s', p')) on e' f' g' h')
      cases hx : ixOf (L ++ [(s, p)]) (s', p') with
      | some j =>
        rw [hx] at i1
        have i1 : inD (.tup [s'.D, p'.D]) (.lst ((L ++ [(s, p)]).map spd)) = some (.bl true) := i1
        have i2 : ixnD (.lst ((L ++ [(s, p)]).map spd)) [.tup [s'.D, p'.D]] = some (.int (j : Int)) := ixn_sp hL2 o1 hx
        have i3 : metL ixnD (var 5) (acons (mkT (acons (var 9) (acons (var 10) anil))) anil) [a, b, c, .z (.pro (pr.map Ln.s)), d, .z (.lst ((L ++ [(s, p)]).map spd)), .z (ringD none), .z (.bl true), .z (.int o), .z s'.D, .z p'.D, .z (.str h.s)] = .ok (.int (j : Int)) := by
          have ar : acons (mkT (acons (var 9) (acons (var 10) anil))) anil [a, b, c, .z (.pro (pr.map Ln.s)), d, .z (.lst ((L ++ [(s, p)]).map spd)), .z (ringD none), .z (.bl true), .z (.int o), .z s'.D, .z p'.D, .z (.str h.s)] = .ok [.tup [s'.D, p'.D]] := by simp?! []
          unfold metL
          rw [ar]
          show ofO (ixnD (.lst ((L ++ [(s, p)]).map spd)) [.tup [s'.D, p'.D]]) = _
          rw [i2]; rfl
        have hb : b1_law P w (R34 a b c pr d (L ++ [(s, p)]) none true (.z (.int o)) f g h0) = .nx (R34 a b c pr d (L ++ [(s, p)] ++ [(s', p')]) (some (j, o - (j : Int))) true (.z (.int o)) (.z s'.D) (.z p'.D) (.z (.str h.s))) := by
          simp?! [b1_law, R34, z0, la, st, asg3, oi, i1, i3, appRR_ok, eL]
          rfl
        rw [loop_cons g1 hb]
        obtain ⟨e', k⟩ := stop34 (P := P) (w := w) (a := a) (b := b) (c := c) (d := d) (f := .z s'.D) (g := .z p'.D) (h := .z (.str h.s)) (pr := pr) (L := L ++ [(s, p)] ++ [(s', p')]) (due := some (j, o - (j : Int))) (on := true) (.inr rfl) n (o + 1) (.z (.int o))
        exact ⟨_, _, _, _, _, _, k⟩
      | none =>
        rw [hx] at i1
        have i1 : inD (.tup [s'.D, p'.D]) (.lst ((L ++ [(s, p)]).map spd)) = some (.bl false) := i1
        have hb : b1_law P w (R34 a b c pr d (L ++ [(s, p)]) none true (.z (.int o)) f g h0) = .nx (R34 a b c pr d (L ++ [(s, p)] ++ [(s', p')]) none true (.z (.int o)) (.z s'.D) (.z p'.D) (.z (.str h.s))) := by
          simp?! [b1_law, R34, z0, la, st, asg3, oi, i1, appRR_ok, eL]
          try rfl
        rw [loop_cons g1 hb]
        have il := ih (L ++ [(s, p)]) s' p' (.z (.int o)) (.z s'.D) (.z p'.D) (.z (.str h.s)) o1 o2 hL2 (by rw [List.length_append]; simp; omega)
        have e1 : (L ++ [(s, p)]).length = L.length + 1 := by simp
        rw [e1] at il
        have e2 : ((L.length + 1 + 1 : Nat) : Int) = o + 1 := by omega
        rw [e2] at il
        exact il
    · have q' : ¬ (s', p', h).2.2 = .on := q
      rw [if_neg q']
      rw [decide_eq_false q] at oi
      have hb : b1_law P w (R34 a b c pr d (L ++ [(s, p)]) none true (.z (.int o)) f g h0) = .nx (R34 a b c pr d (L ++ [(s, p)] ++ [(s', p')]) none false (.z (.int o)) (.z s'.D) (.z p'.D) (.z (.str h.s))) := by
        simp?! [b1_law, R34, z0, la, st, asg3, oi, appRR_ok, eL]
        try rfl
      rw [loop_cons g1 hb]
      obtain ⟨e', k⟩ := stop34 (P := P) (w := w) (a := a) (b := b) (c := c) (d := d) (f := .z s'.D) (g := .z p'.D) (h := .z (.str h.s)) (pr := pr) (L := L ++ [(s, p)] ++ [(s', p')]) (due := none) (on := false) (.inl rfl) n (o + 1) (.z (.int o))
      exact ⟨_, _, _, _, _, _, k⟩
theorem addP_ok {xs ys : List Str} (h : xs.length + ys.length ≤ sizeLine) : addP (.pro xs) (.pro ys) = some (.pro (xs ++ ys)) := by
  show (if xs.length + ys.length ≤ sizeLine then some (D.pro (xs ++ ys)) else none) = _
  rw [if_pos h]
theorem ring_plain (r : Option (Nat × Int)) : DN.plain 64 (ringD r) = true := by
  rcases r with _ | ⟨j, k⟩ <;> rfl
theorem fin34 {P : Program} {w : World} {ns : List Int} {m0 : Int} {m : Mn} {pr : List Ln} (hm : 0 ≤ m0) : finR (t4_law P w [.z (.arr ns), .z (.int m0), .z (beginZ m).D, .z (.pro (pr.map Ln.s)), .u, .u, .u, .u, .u, .u, .u, .u]) = .ok (.bl true) := by
  obtain ⟨k, hk⟩ : ∃ k, k = m0 / 16 % 61 := ⟨_, rfl⟩
  have k0 : 0 ≤ k := by omega
  have k1 : k < 61 := by omega
  have op : Pc.Ok ⟨0, []⟩ := ⟨by simp⟩
  have x1 := x_ring (P := P) (w := w) (pr := pr) k0 (by omega) (begin_ok m)
  obtain ⟨L2, on, e', f', g', h', lp⟩ := law_loop (P := P) (w := w) (a := .z (.arr ns)) (b := .z (.int m0)) (c := .z (beginZ m).D) (d := .z (.int k)) (pr := pr) k.toNat [] (beginZ m) ⟨0, []⟩ .u .u .u .u (begin_ok m) op (by simp) (by simp; omega)
  have lp : loopD (gn 8) (b1_law P w) (rngD 1 k.toNat) (R34 (.z (.arr ns)) (.z (.int m0)) (.z (beginZ m).D) pr (.z (.int k)) [(beginZ m, ⟨0, []⟩)] none true .u .u .u .u) = .nx (R34 (.z (.arr ns)) (.z (.int m0)) (.z (beginZ m).D) pr (.z (.int k)) L2 (ringR pr k.toNat 1 [(beginZ m, ⟨0, []⟩)] (beginZ m, ⟨0, []⟩)) on e' f' g' h') := lp
  generalize ringR pr k.toNat 1 [(beginZ m, ⟨0, []⟩)] (beginZ m, ⟨0, []⟩) = r at *
  have q : acons (con (.int 1)) (acons (bop addD (var 4) (con (.int 1))) anil) (R34 (.z (.arr ns)) (.z (.int m0)) (.z (beginZ m).D) pr (.z (.int k)) [(beginZ m, ⟨0, []⟩)] none true .u .u .u .u) = .ok [.int 1, .int (k + 1)] := by simp?! [R34]
  have rg : rng2 (acons (con (.int 1)) (acons (bop addD (var 4) (con (.int 1))) anil)) (R34 (.z (.arr ns)) (.z (.int m0)) (.z (beginZ m).D) pr (.z (.int k)) [(beginZ m, ⟨0, []⟩)] none true .u .u .u .u) = .ok (rngD 1 k.toNat) := by
    unfold rng2
    rw [q]
    show (if (-(2 ^ 62) ≤ (1 : Int) ∧ (1 : Int) < 2 ^ 62) ∧ (-(2 ^ 62) ≤ k + 1 ∧ k + 1 < 2 ^ 62) then Res.ok (rngD 1 (k + 1 - 1).toNat) else .bad) = _
    rw [if_pos (by omega), show k + 1 - 1 = k by omega]
  have key : t4_law P w [.z (.arr ns), .z (.int m0), .z (beginZ m).D, .z (.pro (pr.map Ln.s)), .u, .u, .u, .u, .u, .u, .u, .u] = t8_law P w (R34 (.z (.arr ns)) (.z (.int m0)) (.z (beginZ m).D) pr (.z (.int k)) [(beginZ m, ⟨0, []⟩)] none true .u .u .u .u) := by
    simp?! [t4_law, t5_law, t6_law, t7_law, ← hk]
    rfl
  rw [key]
  have eq := eq_same (ring_plain r)
  simp?! [t8_law, rg, lp, t9_law, R34, x1, eq]
theorem law_true {P : Program} {w : World} (ns : List Int) (h : ns.length ≤ 63) (hz : ∀ z ∈ ns, Builtin.Int.intBits z ≤ 1048576) : d_law P w [.arr ns] = .ok (.bl true) := by
  obtain ⟨m0, e0, g0, g1⟩ := x_mixed (ns := ns) (k := 0) (by omega) (by omega)
  obtain ⟨m1, e1, _, _⟩ := x_mixed (ns := ns) (k := 1) (by omega) (by omega)
  obtain ⟨m, em⟩ := x_manner (n := m0)
  obtain ⟨pr, p1, p2⟩ := x_lpro (n := m1) (m := 14) (by decide) (by decide)
  have sl := sizeLine_eq
  by_cases hq : m0 / 8 % 2 = 1
  · have hb : (m0 / 8 % 2 == 1) = true := by rw [hq]; rfl
    have em1 : (Ln.mark 0).s = "mark1" := by kernel_rfl
    have eg1 : (Ln.go 0).s = "go1" := by kernel_rfl
    have a1 : addP (.pro ["mark1"]) (.pro (pr.map Ln.s)) = some (.pro ((Ln.mark 0 :: pr).map Ln.s)) := by
      rw [addP_ok (by simp; omega), List.map_cons, em1]
      rfl
    have a2 : addP (.pro ((Ln.mark 0 :: pr).map Ln.s)) (.pro ["go1"]) = some (.pro ((Ln.mark 0 :: pr ++ [Ln.go 0]).map Ln.s)) := by
      rw [addP_ok (by simp; omega), List.map_append, List.map_singleton, eg1]
    have b1 : ∀ ρ, mkP (acons (con (.str "mark1")) anil) ρ = .ok (.pro ["mark1"]) := fun ρ => rfl
    have b2 : ∀ ρ, mkP (acons (con (.str "go1")) anil) ρ = .ok (.pro ["go1"]) := fun ρ => rfl
    have key : d_law P w [.arr ns] = finR (t4_law P w [.z (.arr ns), .z (.int m0), .z (beginZ m).D, .z (.pro ((Ln.mark 0 :: pr ++ [Ln.go 0]).map Ln.s)), .u, .u, .u, .u, .u, .u, .u, .u]) := by
      simp?! [v_law, g_law, t1_law, t2_law, t3_law, e0, e1, em, x_begin, p2, hb, b1, b2, a1, a2]
    rw [key]
    exact fin34 g0
  · have hb : (m0 / 8 % 2 == 1) = false := by simpa using hq
    have key : d_law P w [.arr ns] = finR (t4_law P w [.z (.arr ns), .z (.int m0), .z (beginZ m).D, .z (.pro (pr.map Ln.s)), .u, .u, .u, .u, .u, .u, .u, .u]) := by
      simp?! [v_law, g_law, t1_law, t2_law, t3_law, e0, e1, em, x_begin, p2, hb]
    rw [key]
    exact fin34 g0
def dd_ten : He.DefD := ⟨("ten", none), "ten", "ten", defArgs s_ten, defBody s_ten, defScope s_ten, [], []⟩
def dd_figures_of : He.DefD := ⟨("figures_of", none), "figures_of", "figures_of", defArgs s_figures_of, defBody s_figures_of, defScope s_figures_of, [], []⟩
def dd_height : He.DefD := ⟨("height", none), "height", "height", defArgs s_height, defBody s_height, defScope s_height, [], []⟩
def dd_taken : He.DefD := ⟨("taken", none), "taken", "taken", defArgs s_taken, defBody s_taken, defScope s_taken, [], []⟩
def dd_by_size : He.DefD := ⟨("by_size", none), "by_size", "by_size", defArgs s_by_size, defBody s_by_size, defScope s_by_size, [], []⟩
def dd_fitted : He.DefD := ⟨("fitted", none), "fitted", "fitted", defArgs s_fitted, defBody s_fitted, defScope s_fitted, [], []⟩
def dd_power_for : He.DefD := ⟨("power_for", none), "power_for", "power_for", defArgs s_power_for, defBody s_power_for, defScope s_power_for, [], []⟩
def dd_exact : He.DefD := ⟨("exact", none), "exact", "exact", defArgs s_exact, defBody s_exact, defScope s_exact, [], []⟩
def dd_level : He.DefD := ⟨("level", none), "level", "level", defArgs s_level, defBody s_level, defScope s_level, [], []⟩
def dd_of_power : He.DefD := ⟨("of_power", none), "of_power", "of_power", defArgs s_of_power, defBody s_of_power, defScope s_of_power, [], []⟩
def dd_plus : He.DefD := ⟨("plus", none), "plus", "plus", defArgs s_plus, defBody s_plus, defScope s_plus, [], []⟩
def dd_turned : He.DefD := ⟨("turned", none), "turned", "turned", defArgs s_turned, defBody s_turned, defScope s_turned, [], []⟩
def dd_minus : He.DefD := ⟨("minus", none), "minus", "minus", defArgs s_minus, defBody s_minus, defScope s_minus, [], []⟩
def dd_times : He.DefD := ⟨("times", none), "times", "times", defArgs s_times, defBody s_times, defScope s_times, [], []⟩
def dd_over : He.DefD := ⟨("over", none), "over", "over", defArgs s_over, defBody s_over, defScope s_over, [], []⟩
def dd_less : He.DefD := ⟨("less", none), "less", "less", defArgs s_less, defBody s_less, defScope s_less, [], []⟩
def dd_whole_root : He.DefD := ⟨("whole_root", none), "whole_root", "whole_root", defArgs s_whole_root, defBody s_whole_root, defScope s_whole_root, [], []⟩
def dd_root : He.DefD := ⟨("root", none), "root", "root", defArgs s_root, defBody s_root, defScope s_root, [], []⟩
def dd_is_key : He.DefD := ⟨("is_key", none), "is_key", "is_key", defArgs s_is_key, defBody s_is_key, defScope s_is_key, [], []⟩
def dd_begin : He.DefD := ⟨("begin", none), "begin", "begin", defArgs s_begin, defBody s_begin, defScope s_begin, [], []⟩
def dd_told_by : He.DefD := ⟨("told_by", none), "told_by", "told_by", defArgs s_told_by, defBody s_told_by, defScope s_told_by, [], []⟩
def dd_lifted : He.DefD := ⟨("lifted", none), "lifted", "lifted", defArgs s_lifted, defBody s_lifted, defScope s_lifted, [], []⟩
def dd_if_due : He.DefD := ⟨("if_due", none), "if_due", "if_due", defArgs s_if_due, defBody s_if_due, defScope s_if_due, [], []⟩
def dd_typed : He.DefD := ⟨("typed", none), "typed", "typed", defArgs s_typed, defBody s_typed, defScope s_typed, [], []⟩
def dd_signed : He.DefD := ⟨("signed", none), "signed", "signed", defArgs s_signed, defBody s_signed, defScope s_signed, [], []⟩
def dd_told_of : He.DefD := ⟨("told_of", none), "told_of", "told_of", defArgs s_told_of, defBody s_told_of, defScope s_told_of, [], []⟩
def dd_with_deed : He.DefD := ⟨("with_deed", none), "with_deed", "with_deed", defArgs s_with_deed, defBody s_with_deed, defScope s_with_deed, [], []⟩
def dd_with_box : He.DefD := ⟨("with_box", none), "with_box", "with_box", defArgs s_with_box, defBody s_with_box, defScope s_with_box, [], []⟩
def dd_moved : He.DefD := ⟨("moved", none), "moved", "moved", defArgs s_moved, defBody s_moved, defScope s_moved, [], []⟩
def dd_pressed : He.DefD := ⟨("pressed", none), "pressed", "pressed", defArgs s_pressed, defBody s_pressed, defScope s_pressed, [], []⟩
def dd_behind_mark : He.DefD := ⟨("behind_mark", none), "behind_mark", "behind_mark", defArgs s_behind_mark, defBody s_behind_mark, defScope s_behind_mark, [], []⟩
def dd_is_so : He.DefD := ⟨("is_so", none), "is_so", "is_so", defArgs s_is_so, defBody s_is_so, defScope s_is_so, [], []⟩
def dd_led : He.DefD := ⟨("led", none), "led", "led", defArgs s_led, defBody s_led, defScope s_led, [], []⟩
def dd_step : He.DefD := ⟨("step", none), "step", "step", defArgs s_step, defBody s_step, defScope s_step, [], []⟩
def dd_ring : He.DefD := ⟨("ring", none), "ring", "ring", defArgs s_ring, defBody s_ring, defScope s_ring, [], []⟩
def dd__law_cell_at : He.DefD := ⟨("_law_cell_at", none), "_law_cell_at", "_law_cell_at", defArgs s__law_cell_at, defBody s__law_cell_at, defScope s__law_cell_at, [], []⟩
def dd__law_mixed : He.DefD := ⟨("_law_mixed", none), "_law_mixed", "_law_mixed", defArgs s__law_mixed, defBody s__law_mixed, defScope s__law_mixed, [], []⟩
def dd__law_drawn : He.DefD := ⟨("_law_drawn", none), "_law_drawn", "_law_drawn", defArgs s__law_drawn, defBody s__law_drawn, defScope s__law_drawn, [], []⟩
def dd__law_manner : He.DefD := ⟨("_law_manner", none), "_law_manner", "_law_manner", defArgs s__law_manner, defBody s__law_manner, defScope s__law_manner, [], []⟩
def dd__law_line : He.DefD := ⟨("_law_line", none), "_law_line", "_law_line", defArgs s__law_line, defBody s__law_line, defScope s__law_line, [], []⟩
def dd__law_program : He.DefD := ⟨("_law_program", none), "_law_program", "_law_program", defArgs s__law_program, defBody s__law_program, defScope s__law_program, [], []⟩
def dd_law : He.DefD := ⟨("law", none), "law", "law", defArgs s_law, defBody s_law, defScope s_law, [], []⟩
def fn : List He.DefD := [dd_ten, dd_figures_of, dd_height, dd_taken, dd_by_size, dd_fitted, dd_power_for, dd_exact, dd_level, dd_of_power, dd_plus, dd_turned, dd_minus, dd_times, dd_over, dd_less, dd_whole_root, dd_root, dd_is_key, dd_begin, dd_told_by, dd_lifted, dd_if_due, dd_typed, dd_signed, dd_told_of, dd_with_deed, dd_with_box, dd_moved, dd_pressed, dd_behind_mark, dd_is_so, dd_led, dd_step, dd_ring, dd__law_cell_at, dd__law_mixed, dd__law_drawn, dd__law_manner, dd__law_line, dd__law_program, dd_law]
def fa : List He.Fa := [.glo "ten", .glo "figures_of", .glo "height", .glo "taken", .glo "by_size", .glo "fitted", .glo "power_for", .glo "exact", .glo "level", .glo "of_power", .glo "plus", .glo "turned", .glo "minus", .glo "times", .glo "over", .glo "less", .glo "whole_root", .glo "root", .glo "is_key", .glo "begin", .glo "told_by", .glo "lifted", .glo "if_due", .glo "typed", .glo "signed", .glo "told_of", .glo "with_deed", .glo "with_box", .glo "moved", .glo "pressed", .glo "behind_mark", .glo "is_so", .glo "led", .glo "step", .glo "ring", .glo "_law_cell_at", .glo "_law_mixed", .glo "_law_drawn", .glo "_law_manner", .glo "_law_line", .glo "_law_program", .glo "law", .free "int", .free "abs", .free "str", .free "len", .free "max", .free "min", .free "isinstance", .free "range", .free "tuple", .int "HIGHEST" (40), .int "MOST" (8), .int "BOXES" (10), .int "MOST_CALLS" (4), .str "FIGURES" "0123456789", .glo "PLAIN_KEYS", .glo "ZERO", .glo "DEEDS", .glo "NoDeed", .glo "TooGreat", .exm "NoDeed" "NoDeed" true, .exm "TooGreat" "NoDeed" false, .exm "TooGreat" "TooGreat" true, .exc "TooGreat", .exc "NoDeed", .glo "NoKey", .exc "NoKey"]
def ts : List He.Tab := [((fun K => He.ga K "DEEDS"), ["plus", "minus", "times", "over"])]
def tf : List He.Defn := []
def ex (K : PySem.W.Frag) : Bool := (He.tupB K "PLAIN_KEYS" (k_PLAIN_KEYS.map He.Dv.str) && (He.tupB K "ZERO" (([0, 0] : List Int).map He.Dv.int) && (He.valsB K (He.ga K "DEEDS") [("plus", He.Dv.glo "plus"), ("minus", He.Dv.glo "minus"), ("times", He.Dv.glo "times"), ("over", He.Dv.glo "over")] && true)))
abbrev R : PySem.W.OpenRow := PySem.W.OpenLaw.row PySem.Challenge.rw_pocketpile_k34_whole_rings
abbrev hk : PySem.W.Hook := He.hookX 5 fa fn ts tf ex
def ob (s : PySem.W.SharedT) : He.AlX := He.obsX 5 fa fn ts tf ex (HandSHeadRun.getT s)
theorem ob_eq (s : PySem.W.SharedT) : ob s = hk.obs s.abs := He.obsX_eq (HandSHeadRun.getT_eq s)
def names : List PySem.Str := (["PileError", "TooGreat", "NoDeed", "NoKey", "MOST", "HIGHEST", "ten", "figures_of", "height", "taken", "by_size", "fitted", "power_for", "exact", "level", "of_power", "plus", "turned", "minus", "times"] : List PySem.Str) ++ (["over", "less", "whole_root", "root", "FIGURES", "ZERO", "DEEDS", "PLAIN_KEYS", "BOXES", "is_key", "begin", "told_by", "lifted", "if_due", "typed", "signed", "told_of", "with_deed", "with_box", "moved"] : List PySem.Str) ++ (["pressed", "MOST_CALLS", "behind_mark", "is_so", "led", "step", "ring", "_law_cell_at", "_law_mixed", "_law_drawn", "_law_manner", "_law_line", "_law_program"] : List PySem.Str)
theorem run_f (w : World) : HandSHeadRun.RunEq R (PySem.W.view R.prog [59]) hk ob 3000 names (w.withFollow "special-get-raises" false) := by
  intro os
  kernel_rfl
theorem run_t (w : World) : HandSHeadRun.RunEq R (PySem.W.view R.prog [59]) hk ob 3000 names (w.withFollow "special-get-raises" true) := by
  intro os
  kernel_rfl
theorem run (w : World) : HandSHeadRun.RunEq R (PySem.W.view R.prog [59]) hk ob 3000 names w := PySem.W.byRow2 "special-get-raises" (P := fun w => HandSHeadRun.RunEq R (PySem.W.view R.prog [59]) hk ob 3000 names w) run_f run_t w
theorem top_of {w : World} {K : PySem.W.Frag} {h : Heap} {mg : Str → Option Value} (X : K.In h) (G : h.Ns mainGlobals mg) (c : He.SaysX fa fn ts tf ex w h K) : Top w K mg :=
  ⟨(c.t.d.def_ 0 (d := dd_ten) rfl),
   (He.glo_ok X G (c.t.d.fact 0 (f := .glo "ten") rfl)),
   (c.t.d.def_ 1 (d := dd_figures_of) rfl),
   (He.glo_ok X G (c.t.d.fact 1 (f := .glo "figures_of") rfl)),
   (c.t.d.def_ 2 (d := dd_height) rfl),
   (He.glo_ok X G (c.t.d.fact 2 (f := .glo "height") rfl)),
   (c.t.d.def_ 3 (d := dd_taken) rfl),
   (He.glo_ok X G (c.t.d.fact 3 (f := .glo "taken") rfl)),
   (c.t.d.def_ 4 (d := dd_by_size) rfl),
   (He.glo_ok X G (c.t.d.fact 4 (f := .glo "by_size") rfl)),
   (c.t.d.def_ 5 (d := dd_fitted) rfl),
   (He.glo_ok X G (c.t.d.fact 5 (f := .glo "fitted") rfl)),
   (c.t.d.def_ 6 (d := dd_power_for) rfl),
   (He.glo_ok X G (c.t.d.fact 6 (f := .glo "power_for") rfl)),
   (c.t.d.def_ 7 (d := dd_exact) rfl),
   (He.glo_ok X G (c.t.d.fact 7 (f := .glo "exact") rfl)),
   (c.t.d.def_ 8 (d := dd_level) rfl),
   (He.glo_ok X G (c.t.d.fact 8 (f := .glo "level") rfl)),
   (c.t.d.def_ 9 (d := dd_of_power) rfl),
   (He.glo_ok X G (c.t.d.fact 9 (f := .glo "of_power") rfl)),
   (c.t.d.def_ 10 (d := dd_plus) rfl),
   (He.glo_ok X G (c.t.d.fact 10 (f := .glo "plus") rfl)),
   (c.t.d.def_ 11 (d := dd_turned) rfl),
   (He.glo_ok X G (c.t.d.fact 11 (f := .glo "turned") rfl)),
   (c.t.d.def_ 12 (d := dd_minus) rfl),
   (He.glo_ok X G (c.t.d.fact 12 (f := .glo "minus") rfl)),
   (c.t.d.def_ 13 (d := dd_times) rfl),
   (He.glo_ok X G (c.t.d.fact 13 (f := .glo "times") rfl)),
   (c.t.d.def_ 14 (d := dd_over) rfl),
   (He.glo_ok X G (c.t.d.fact 14 (f := .glo "over") rfl)),
   (c.t.d.def_ 15 (d := dd_less) rfl),
   (He.glo_ok X G (c.t.d.fact 15 (f := .glo "less") rfl)),
   (c.t.d.def_ 16 (d := dd_whole_root) rfl),
   (He.glo_ok X G (c.t.d.fact 16 (f := .glo "whole_root") rfl)),
   (c.t.d.def_ 17 (d := dd_root) rfl),
   (He.glo_ok X G (c.t.d.fact 17 (f := .glo "root") rfl)),
   (c.t.d.def_ 18 (d := dd_is_key) rfl),
   (He.glo_ok X G (c.t.d.fact 18 (f := .glo "is_key") rfl)),
   (c.t.d.def_ 19 (d := dd_begin) rfl),
   (He.glo_ok X G (c.t.d.fact 19 (f := .glo "begin") rfl)),
   (c.t.d.def_ 20 (d := dd_told_by) rfl),
   (He.glo_ok X G (c.t.d.fact 20 (f := .glo "told_by") rfl)),
   (c.t.d.def_ 21 (d := dd_lifted) rfl),
   (He.glo_ok X G (c.t.d.fact 21 (f := .glo "lifted") rfl)),
   (c.t.d.def_ 22 (d := dd_if_due) rfl),
   (He.glo_ok X G (c.t.d.fact 22 (f := .glo "if_due") rfl)),
   (c.t.d.def_ 23 (d := dd_typed) rfl),
   (He.glo_ok X G (c.t.d.fact 23 (f := .glo "typed") rfl)),
   (c.t.d.def_ 24 (d := dd_signed) rfl),
   (He.glo_ok X G (c.t.d.fact 24 (f := .glo "signed") rfl)),
   (c.t.d.def_ 25 (d := dd_told_of) rfl),
   (He.glo_ok X G (c.t.d.fact 25 (f := .glo "told_of") rfl)),
   (c.t.d.def_ 26 (d := dd_with_deed) rfl),
   (He.glo_ok X G (c.t.d.fact 26 (f := .glo "with_deed") rfl)),
   (c.t.d.def_ 27 (d := dd_with_box) rfl),
   (He.glo_ok X G (c.t.d.fact 27 (f := .glo "with_box") rfl)),
   (c.t.d.def_ 28 (d := dd_moved) rfl),
   (He.glo_ok X G (c.t.d.fact 28 (f := .glo "moved") rfl)),
   (c.t.d.def_ 29 (d := dd_pressed) rfl),
   (He.glo_ok X G (c.t.d.fact 29 (f := .glo "pressed") rfl)),
   (c.t.d.def_ 30 (d := dd_behind_mark) rfl),
   (He.glo_ok X G (c.t.d.fact 30 (f := .glo "behind_mark") rfl)),
   (c.t.d.def_ 31 (d := dd_is_so) rfl),
   (He.glo_ok X G (c.t.d.fact 31 (f := .glo "is_so") rfl)),
   (c.t.d.def_ 32 (d := dd_led) rfl),
   (He.glo_ok X G (c.t.d.fact 32 (f := .glo "led") rfl)),
   (c.t.d.def_ 33 (d := dd_step) rfl),
   (He.glo_ok X G (c.t.d.fact 33 (f := .glo "step") rfl)),
   (c.t.d.def_ 34 (d := dd_ring) rfl),
   (He.glo_ok X G (c.t.d.fact 34 (f := .glo "ring") rfl)),
   (c.t.d.def_ 35 (d := dd__law_cell_at) rfl),
   (He.glo_ok X G (c.t.d.fact 35 (f := .glo "_law_cell_at") rfl)),
   (c.t.d.def_ 36 (d := dd__law_mixed) rfl),
   (He.glo_ok X G (c.t.d.fact 36 (f := .glo "_law_mixed") rfl)),
   (c.t.d.def_ 37 (d := dd__law_drawn) rfl),
   (He.glo_ok X G (c.t.d.fact 37 (f := .glo "_law_drawn") rfl)),
   (c.t.d.def_ 38 (d := dd__law_manner) rfl),
   (He.glo_ok X G (c.t.d.fact 38 (f := .glo "_law_manner") rfl)),
   (c.t.d.def_ 39 (d := dd__law_line) rfl),
   (He.glo_ok X G (c.t.d.fact 39 (f := .glo "_law_line") rfl)),
   (c.t.d.def_ 40 (d := dd__law_program) rfl),
   (He.glo_ok X G (c.t.d.fact 40 (f := .glo "_law_program") rfl)),
   (c.t.d.def_ 41 (d := dd_law) rfl),
   (He.glo_ok X G (c.t.d.fact 41 (f := .glo "law") rfl)),
   (He.free_ok X G (c.t.d.fact 42 (f := .free "int") rfl)),
   (He.free_ok X G (c.t.d.fact 43 (f := .free "abs") rfl)),
   (He.free_ok X G (c.t.d.fact 44 (f := .free "str") rfl)),
   (He.free_ok X G (c.t.d.fact 45 (f := .free "len") rfl)),
   (He.free_ok X G (c.t.d.fact 46 (f := .free "max") rfl)),
   (He.free_ok X G (c.t.d.fact 47 (f := .free "min") rfl)),
   (He.free_ok X G (c.t.d.fact 48 (f := .free "isinstance") rfl)),
   (He.free_ok X G (c.t.d.fact 49 (f := .free "range") rfl)),
   (He.free_ok X G (c.t.d.fact 50 (f := .free "tuple") rfl)),
   (He.int_ok X G (c.t.d.fact 51 (f := .int "HIGHEST" (40)) rfl)),
   (He.int_ok X G (c.t.d.fact 52 (f := .int "MOST" (8)) rfl)),
   (He.int_ok X G (c.t.d.fact 53 (f := .int "BOXES" (10)) rfl)),
   (He.int_ok X G (c.t.d.fact 54 (f := .int "MOST_CALLS" (4)) rfl)),
   (He.str_ok X G (c.t.d.fact 55 (f := .str "FIGURES" "0123456789") rfl)),
   (He.glo_ok X G (c.t.d.fact 56 (f := .glo "PLAIN_KEYS") rfl)),
   (fun H => tup_strs (He.tupB_ok (He.ba c.more).1 H)),
   (He.glo_ok X G (c.t.d.fact 57 (f := .glo "ZERO") rfl)),
   (fun H => tup_ints (He.tupB_ok (He.ba (He.ba c.more).2).1 H)),
   (dic_f X G (tab_eq c.t 0 (t := ((fun K => He.ga K "DEEDS"), ["plus", "minus", "times", "over"])) rfl) (He.ba (He.ba (He.ba c.more).2).2).1 (c.t.d.fact 58 (f := .glo "DEEDS") rfl)),
   (⟨He.glo_ok X G (c.t.d.fact 59 (f := .glo "NoDeed") rfl), He.glo_ok X G (c.t.d.fact 60 (f := .glo "TooGreat") rfl), He.exm_ok (c.t.d.fact 61 (f := .exm "NoDeed" "NoDeed" true) rfl), by rw [He.exm_ok (c.t.d.fact 62 (f := .exm "TooGreat" "NoDeed" false) rfl)]; decide +kernel, He.exm_ok (c.t.d.fact 63 (f := .exm "TooGreat" "TooGreat" true) rfl)⟩),
   (exc_n X G (c.t.d.fact 60 (f := .glo "TooGreat") rfl) (c.t.d.fact 64 (f := .exc "TooGreat") rfl)),
   (exc_n X G (c.t.d.fact 59 (f := .glo "NoDeed") rfl) (c.t.d.fact 65 (f := .exc "NoDeed") rfl)),
   (exc_n X G (c.t.d.fact 66 (f := .glo "NoKey") rfl) (c.t.d.fact 67 (f := .exc "NoKey") rfl))⟩
theorem law_end {l : PySem.W.OpenLaw} {w : World} {K : PySem.W.Frag} {h : Heap} {mg : Str → Option Value} {f : Addr} (X : K.In h) (G : h.Ns mainGlobals mg) (hfa : mg ("law" : Str) = some (.ref f)) (c : He.SaysX fa fn ts tf ex w h K) : LamX.LawAtS l w K (L2.CX l.prog w) 13 63 "script" mg f h := by
  have Z := top_of X G c
  have e := hfa.symm.trans Z.m_law
  cases e
  obtain ⟨fd, Fd⟩ := Z.f_law
  have b := FunD.bindsA (ps := ["script"]) Fd fun _ _ _ _ _ _ us hl => match us, hl with | [_], _ => rfl
  refine lawAt0 (fd := fd) (den := d_law l.prog w) (fun s v => b s [v] rfl) law_true fun base h1 h2 => ?_
  exact law_fn Z Fd
end LW
open PySem PySem.W PySem.Calls PyProof.Rows
set_option maxRecDepth 100000 in
set_option maxHeartbeats 0 in
theorem PySem.Challenge.cw_pocketpile_k34_whole_rings_holds : PySem.Challenge.rw_pocketpile_k34_whole_rings.Holds := by
  w_on; o_law
  refine HandSHeadRun.head_any (r := OpenLaw.row PySem.Challenge.rw_pocketpile_k34_whole_rings) (q := view (OpenLaw.row PySem.Challenge.rw_pocketpile_k34_whole_rings).prog [59]) (H := LW.hk) (ob := LW.ob) (M := 3000) (loose := LW.names) (d := HandSHeadRun.topDef (OpenLaw.row PySem.Challenge.rw_pocketpile_k34_whole_rings).prog 59) (kwd := []) LW.ob_eq
    (by kernel_rfl) (fun s => by kernel_rfl) LW.run (by kernel_rfl) (by kernel_rfl) (by kernel_rfl) (by rfl) (by first | assumption | decide +kernel) (by decide +kernel) ⟨rfl, rfl, rfl, rfl, rfl, by decide +kernel⟩ ?hw ?hc
  case hw => w_witness2
  case hc =>
    refine LamX.walk_ofTsE (l := PySem.Challenge.rw_pocketpile_k34_whole_rings) (n := 63) (k := 13) (x := "script") (CX := fun w => L2.CX (PySem.Challenge.rw_pocketpile_k34_whole_rings).prog w) rfl (by decide) (by kernel_rfl) ⟨rfl, by decide, by decide⟩ ?F (fun _ _ _ _ _ z => DN.cx_false z)
    intro w mg fa h Y G hmg0
    obtain ⟨K, KX, c⟩ := Y
    have hmg : mg ("law" : PySem.Str) = some (.ref fa) := by
      have e : (HandSHeadRun.topDef (OpenLaw.row PySem.Challenge.rw_pocketpile_k34_whole_rings).prog 59).name = ("law" : PySem.Str) := by kernel_rfl
      rw [← e]
      exact hmg0
    exact ⟨K, KX, LW.law_end (l := PySem.Challenge.rw_pocketpile_k34_whole_rings) KX G hmg c⟩
