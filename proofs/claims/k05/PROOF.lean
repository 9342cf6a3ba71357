import PyProof.Rows.All
import Wide.All
import OpenK.AllK
import Wide.FinOn
import PyProof.EqAt
import PyProof.EqKinds
import PyProof.TupleCall
import HandS.Base
import HandS.Call
import HandS.List
import HandS.Comp
import HandS.Ends
import HandS.Dict
import HandS.Iter
import HandS.Text
import HandS.Words
import HandS.WordsList
import HandS.WordsExc
import HandS.Exc
import HandS.ExcOwn
import HandS.Wide
import HandS.IsInst
import HandS.TupAny
import HandS.TupMul
import HandS.Lambda
import HandS.EndTab
import HandS.HeadWalk
import HandS.HeadHook1
import HandS.HeadHook2
import HandS.Defaults
import HandS.NoneIn
import HandS.Style
import KE.KDictDisplayH
import HandS.HeadEnd
import HandS.Head0
import HandS.Head1
import HandS.Head2
import HandS.HeadHook3
import HandS.HeadHook4
import HandS.Replace
import HandS.ExcIs
import HandS.Flt
import HandS.More
import HandS.TryMany
import HandS.CallLocal
import HandS.Strs
import HandS.ReplaceLit
import HandS.ReplaceList
import HandS.Zip
import PyProof.ReprRoads
import HandS.Deep
import HandS.Small
import PyProof.DictUpdate
import KE.GoesMore
import KE.KItemsList
import HandS.DictTup
import KE.KDictZip
import HandS.ReplaceDef
import KE.GoesEnum
import HandS.Nested
import HandS.StrMore
import KE.KDictCopyH
import KE.KDictKeyed
import KE.KEqDict
import KE.SortData
import KE.KDictPairs
import KE.DataCmp
import KE.IntTextLaws
import PySem.Challenge.RW_pocketpile_k05_whole_nearest
set_option Elab.async false
set_option linter.all false
set_option maxRecDepth 100000
set_option maxHeartbeats 4000000
/-! DN: a program's defs as plain functions of data. The heap is dealt with here, once. -/
namespace DN
open PySem PySem.Spec PyProof.Rows L2
open LamX (Tabs ExtN)

/-- data -/
inductive D where
  | non | bl (b : Bool) | int (i : Int) | str (x : Str) | lst (xs : List D) | tup (xs : List D) | fn (x : Str) | ty (n : String)
  | dK (kvs : List (Key × V)) | dT (kvs : List (List Key × V)) | arr (ns : List Int)
  /-- a tuple of texts that has no dict of its own -/
  | pro (xs : List Str)
  /-- a dict whose keys are nested tuples (an object of the frame's own) -/
  | dic (P : Program) (w : World) (ks vs : List D)
  /-- a thing known by its address alone -/
  | adr (a : Addr)
  /-- an instance of the class c, its attributes (an object of the frame's own) -/
  | ins (c : Str) (ns : List Str) (vs : List D)
  /-- a dict of text keys, frozen; where its address is known, that one -/
  | tab (o : Option Addr) (ks : List Str) (vs : List D)
  /-- a tuple of ints, made at run time -/
  | pw (ks : List Int)
  /-- a tuple that has no dict of its own -/
  | frm (ds : List D)
def kvK (ks : List Str) (vs : List V) : List (Key × V) := (ks.zip vs).map fun q => (Sum.inr q.1, q.2)

/-- what comes: a value, an own error by its class's name, or nothing is promised -/
inductive Res (α : Type) where
  | ok (a : α) | ex (n : Str) | bad
def Res.bind {α β : Type} : Res α → (α → Res β) → Res β
  | .ok a, f => f a
  | .ex n, _ => .ex n
  | .bad, _ => .bad
def Res.map {α β : Type} (r : Res α) (f : α → β) : Res β := r.bind fun a => .ok (f a)
def ofO {α : Type} : Option α → Res α
  | some a => .ok a
  | none => .bad

mutual
inductive Rp (K : PySem.W.Frag) (H : Hp) : V → D → Prop
  | non : Rp K H .non .non
  | bl (b : Bool) : Rp K H (.bl b) (.bl b)
  | int (i : Int) : Rp K H (.int i) (.int i)
  | str (x : Str) : Rp K H (.str x) (.str x)
  | fn (x : Str) : Rp K H (.ref (He.ga K x)) (.fn x)
  | ty (n : String) : Rp K H (.ty n) (.ty n)
  | lst {a : Addr} {xs : List V} {ds : List D} : H a = some (.lst xs) → RpAll K H xs ds → Rp K H (.ref a) (.lst ds)
  | tup {a : Addr} {xs : List V} {ds : List D} : SqT K H a xs → RpAll K H xs ds → Rp K H (.ref a) (.tup ds)
  | dK {a : Addr} {kvs : List (Key × V)} : H a = some (.dK kvs) → Rp K H (.ref a) (.dK kvs)
  | dT {a : Addr} {kvs : List (List Key × V)} : (∃ od, H a = some (.frz od (.dT kvs))) → Rp K H (.ref a) (.dT kvs)
  | arr {a : Addr} {ns : List Int} : SqL K H a (ns.map V.int) → Rp K H (.ref a) (.arr ns)
  | pro {a : Addr} {xs : List Str} : (∃ o : Obj, o.cls = .type "tuple" ∧ o.dict = none ∧ H a = some (.frz o (.tup (xs.map V.str)))) → Rp K H (.ref a) (.pro xs)
  | adr (a : Addr) : Rp K H (.ref a) (.adr a)
  | tab {a : Addr} {o : Option Addr} {ks : List Str} {ws : List V} {ds : List D} : (∀ p, o = some p → a = p) → H a = some (.dK (kvK ks ws)) → ks.length = ws.length → RpAll K H ws ds → Rp K H (.ref a) (.tab o ks ds)
  | pw {a : Addr} {ks : List Int} : H a = some (.tup (ks.map V.int)) → Rp K H (.ref a) (.pw ks)
  | frm {a : Addr} {xs : List V} {ds : List D} : (∃ o : Obj, o.cls = .type "tuple" ∧ o.dict = none ∧ H a = some (.frz o (.tup xs))) → RpAll K H xs ds → Rp K H (.ref a) (.frm ds)
inductive RpAll (K : PySem.W.Frag) (H : Hp) : List V → List D → Prop
  | nil : RpAll K H [] []
  | cons {v : V} {vs : List V} {d : D} {ds : List D} : Rp K H v d → RpAll K H vs ds → RpAll K H (v :: vs) (d :: ds)
end

def Sub (F H : Hp) : Prop := ∀ a o, F a = some o → H a = some o
theorem Sub.refl (F : Hp) : Sub F F := fun _ _ h => h
theorem Sub.trans {F G H : Hp} (a : Sub F G) (b : Sub G H) : Sub F H := fun x o h => b x o (a x o h)
theorem Sub.rd {F H : Hp} {a : Addr} {u : HO} (e : Sub F H) (h : Rd F a u) : Rd H a u := by
  rcases h with h | ⟨o, h⟩
  · exact .inl (e _ _ h)
  · exact .inr ⟨o, e _ _ h⟩
theorem Sub.sl {K : PySem.W.Frag} {F H : Hp} {a : Addr} {xs : List V} (e : Sub F H) (h : SqL K F a xs) : SqL K H a xs := h.elim (fun h => .inl (e.rd h)) .inr
theorem Sub.st {K : PySem.W.Frag} {F H : Hp} {a : Addr} {xs : List V} (e : Sub F H) (h : SqT K F a xs) : SqT K H a xs := h.elim (fun h => .inl (e.rd h)) .inr
mutual
theorem Rp.mono {K : PySem.W.Frag} {F H : Hp} (e : Sub F H) : ∀ {v : V} {d : D}, Rp K F v d → Rp K H v d
  | _, _, .non => .non
  | _, _, .bl b => .bl b
  | _, _, .int i => .int i
  | _, _, .str x => .str x
  | _, _, .fn x => .fn x
  | _, _, .ty n => .ty n
  | _, _, .lst h t => .lst (e _ _ h) (RpAll.mono e t)
  | _, _, .tup h t => .tup (e.st h) (RpAll.mono e t)
  | _, _, .dK h => .dK (e _ _ h)
  | _, _, .dT ⟨od, h⟩ => .dT ⟨od, e _ _ h⟩
  | _, _, .arr h => .arr (e.sl h)
  | _, _, .pro ⟨o, h1, h2, h3⟩ => .pro ⟨o, h1, h2, e _ _ h3⟩
  | _, _, .adr a => .adr a
  | _, _, .tab h1 h2 h3 t => .tab h1 (e _ _ h2) h3 (RpAll.mono e t)
  | _, _, .pw h => .pw (e _ _ h)
  | _, _, .frm ⟨o, h1, h2, h3⟩ t => .frm ⟨o, h1, h2, e _ _ h3⟩ (RpAll.mono e t)
theorem RpAll.mono {K : PySem.W.Frag} {F H : Hp} (e : Sub F H) : ∀ {vs : List V} {ds : List D}, RpAll K F vs ds → RpAll K H vs ds
  | _, _, .nil => .nil
  | _, _, .cons h t => .cons (Rp.mono e h) (RpAll.mono e t)
end
section
variable {K : PySem.W.Frag} {F H : Hp}
theorem RpAll.length : ∀ {vs : List V} {ds : List D}, RpAll K F vs ds → vs.length = ds.length
  | _, _, .nil => rfl
  | _, _, .cons _ t => by rw [List.length_cons, List.length_cons, RpAll.length t]
theorem RpAll.get : ∀ {vs : List V} {ds : List D} {i : Nat} {d : D}, RpAll K F vs ds → ds[i]? = some d → ∃ v, vs[i]? = some v ∧ Rp K F v d
  | _, _, _, _, .nil, e => by simp at e
  | _, _, 0, _, .cons h _, e => by
    simp at e; subst e; exact ⟨_, rfl, h⟩
  | _, _, i + 1, d, .cons _ t, e => by
    obtain ⟨v, h1, h2⟩ := RpAll.get (i := i) (d := d) t (by simpa using e)
    exact ⟨v, by simpa using h1, h2⟩
theorem RpAll.append : ∀ {vs ws : List V} {ds es : List D}, RpAll K F vs ds → RpAll K F ws es → RpAll K F (vs ++ ws) (ds ++ es)
  | _, _, _, _, .nil, s => s
  | _, _, _, _, .cons h t, s => .cons h (RpAll.append t s)
theorem RpAll.take : ∀ {vs : List V} {ds : List D} (n : Nat), RpAll K F vs ds → RpAll K F (vs.take n) (ds.take n)
  | _, _, 0, _ => by simp; exact .nil
  | _, _, _ + 1, .nil => .nil
  | _, _, n + 1, .cons h t => .cons h (RpAll.take n t)
theorem RpAll.drop : ∀ {vs : List V} {ds : List D} (n : Nat), RpAll K F vs ds → RpAll K F (vs.drop n) (ds.drop n)
  | _, _, 0, r => r
  | _, _, _ + 1, .nil => .nil
  | _, _, n + 1, .cons _ t => RpAll.drop n t
theorem RpAll.ints : ∀ (ns : List Int), RpAll K F (ns.map V.int) (ns.map D.int)
  | [] => .nil
  | n :: ns => .cons (.int n) (RpAll.ints ns)
end

/-- the frozen part F of H -/
structure Fz (F H : Hp) : Prop where
  sub : Sub F H
  nt : ∀ a ps, F a ≠ some (.tbl ps)
/-- a table, or a tuple (which no one changes) -/
def Sd (o : HO) : Prop := (∃ ps, o = .tbl ps) ∨ ∃ xs, o = .tup xs
/-- from (F, H) to (F', H') -/
structure Nx (T : List (Addr × Str)) (F H F' H' : Hp) : Prop where
  f : Sub F F'
  z : Fz F' H'
  h : ExtN H H'
  new : ∀ a o, F' a = some o → F a = some o ∨ ∀ o', H a = some o' → Sd o'
  tab : Tabs T H → Tabs T H'
section
variable {T : List (Addr × Str)} {F H F1 H1 F2 H2 : Hp}
theorem Nx.refl (z : Fz F H) : Nx T F H F H := ⟨Sub.refl F, z, ExtN.refl H, fun _ _ h => .inl h, fun h => h⟩
theorem Nx.trans (a : Nx T F H F1 H1) (b : Nx T F1 H1 F2 H2) : Nx T F H F2 H2 where
  f := a.f.trans b.f
  z := b.z
  h := a.h.trans b.h
  new := fun x o e => by
    rcases b.new x o e with h | h
    · exact a.new x o h
    · refine .inr fun o' e' => ?_
      by_cases q : ∃ ps, o' = .tbl ps
      · exact .inl q
      · exact h o' (a.h x o' e' fun ps z => q ⟨ps, z⟩)
  tab := fun h => b.tab (a.tab h)
/-- a new object that is frozen from its begin -/
theorem Nx.push {p : Addr} {o : HO} (z : Fz F H) (hp : H p = none) (ho : ∀ ps, o ≠ .tbl ps) : Nx T F H (upd F p o) (upd H p o) := by
  have fp : F p = none := by
    cases q : F p with
    | none => rfl
    | some u =>
      have := z.sub _ _ q
      rw [hp] at this; cases this
  refine ⟨fun a u e => ?_, ⟨fun a u e => ?_, fun a ps e => ?_⟩, fun b u e _ => ?_, fun a u e => ?_, fun t => t.ext fun b u e => ?_⟩
  · rw [upd_ne (ne_of_none e fp)]; exact e
  · by_cases h : a = p
    · subst h; rw [upd_same] at e ⊢; exact e
    · rw [upd_ne h] at e ⊢; exact z.sub _ _ e
  · by_cases h : a = p
    · subst h; rw [upd_same] at e; exact ho ps (Option.some.inj e)
    · rw [upd_ne h] at e; exact z.nt _ _ e
  · rw [upd_ne (ne_of_none e hp)]; exact e
  · by_cases h : a = p
    · subst h; exact .inr fun o' e' => by rw [hp] at e'; cases e'
    · rw [upd_ne h] at e; exact .inl e
  · rw [upd_ne (ne_of_none e hp)]; exact e
/-- a new object that is not frozen -/
theorem Nx.lay {p : Addr} {o : HO} (z : Fz F H) (hp : H p = none) : Nx T F H F (upd H p o) := by
  refine ⟨Sub.refl F, ⟨fun a u e => ?_, z.nt⟩, fun b u e _ => ?_, fun a u e => .inl e, fun t => t.ext fun b u e => ?_⟩
  · rw [upd_ne (ne_of_none (z.sub _ _ e) hp)]; exact z.sub _ _ e
  · rw [upd_ne (ne_of_none e hp)]; exact e
  · rw [upd_ne (ne_of_none e hp)]; exact e
theorem Nx.keep (n : Nx T F H F1 H1) {a : Addr} {o : HO} (e : H a = some o) (ho : ∀ ps, o ≠ .tbl ps) : H1 a = some o := n.h a o e ho
theorem Nx.out (n : Nx T F H F1 H1) {a : Addr} {o : HO} (e : H a = some o) (ho : ∀ ps, o ≠ .tbl ps) (hf : F a = none) (hx : ∀ xs, o ≠ .tup xs := by intro _ z; cases z) : F1 a = none := by
  cases q : F1 a with
  | none => rfl
  | some u =>
    rcases n.new a u q with h | h
    · rw [hf] at h; cases h
    · rcases h o e with ⟨ps, z⟩ | ⟨xs, z⟩
      · exact absurd z (ho ps)
      · exact absurd z (hx xs)
end

/-- a slot: nothing is known; frozen data; an object of the frame's own -/
inductive En where
  | u | z (d : D) | o (d : D)
abbrev Rho := List En
/-! dicts of nested keys -/
mutual
def D.key : D → Option NestedKey
  | .non => some .none
  | .bl b => some (.num (if b = true then 1 else 0))
  | .int i => some (.num i)
  | .str x => some (.text x)
  | .tup ds => (D.keys ds).map .tup
  | _ => none
def D.keys : List D → Option (List NestedKey)
  | [] => some []
  | d :: ds => (D.key d).bind fun k => (D.keys ds).map fun ks => k :: ks
end
def EntR (p : NestedKey × Addr × V) (q : NestedKey × Addr × Value) : Prop := p.1 = q.1 ∧ p.2.1 = q.2.1 ∧ RelV p.2.2 q.2.2
/-- the dict at a: its keys (the tuples' addresses) and values -/
def DicO (P : Program) (w : World) (a : Addr) (es : List (NestedKey × Addr × V)) : HO := .ext fun h => (a == sysModules) = false ∧ es.length ≤ sizeLine ∧ ∃ xs : List (NestedKey × Addr × Value), Paired EntR es xs ∧
  ∃ o ents ep, h.get? a = some o ∧ o.ExactDict ∧ o.data = .dict ents ep ∧ ents.toList = xs.map (entryOfKey (nestedKind P w)) ∧ (xs.map (·.1)).Nodup
inductive DicR (K : PySem.W.Frag) (F : Hp) : List (NestedKey × Addr × V) → List D → List D → Prop
  | nil : DicR K F [] [] []
  | cons {n : NestedKey} {a : Addr} {v : V} {es : List (NestedKey × Addr × V)} {k d : D} {ks vs : List D} : k.key = some n → n.depth ≤ 8 → Rp K F (.ref a) k → Rp K F v d → DicR K F es ks vs → DicR K F ((n, a, v) :: es) (k :: ks) (d :: vs)
theorem DicR.mono {K : PySem.W.Frag} {F F' : Hp} (e : Sub F F') {es : List (NestedKey × Addr × V)} {ks vs : List D} (h : DicR K F es ks vs) : DicR K F' es ks vs := by
  induction h with
  | nil => exact .nil
  | cons h1 h2 h3 h4 _ ih => exact .cons h1 h2 (h3.mono e) (h4.mono e) ih
/-- the object at p, not frozen, is d -/
def OwnAt (K : PySem.W.Frag) (F H : Hp) (p : Addr) : D → Prop
  | .lst ds => ∃ xs, H p = some (.lst xs) ∧ RpAll K F xs ds
  | .dK kvs => H p = some (.dK kvs)
  | .dT kvs => H p = some (.dT kvs)
  | .dic P w ks vs => ∃ es, H p = some (DicO P w p es) ∧ DicR K F es ks vs
  | .ins c ns vs => ∃ dx ws, H p = some (.ins (He.ga K c) dx (ns.zip ws)) ∧ RpAll K F ws vs
  | _ => False
theorem OwnAt.solid {K : PySem.W.Frag} {F H : Hp} {p : Addr} : ∀ {d : D}, OwnAt K F H p d → ∃ o, H p = some o ∧ ∀ ps, o ≠ .tbl ps
  | .lst ds, ⟨xs, h, _⟩ => ⟨_, h, fun ps z => by cases z⟩
  | .dK kvs, h => ⟨_, h, fun ps z => by cases z⟩
  | .dT kvs, h => ⟨_, h, fun ps z => by cases z⟩
  | .dic P w ks vs, ⟨es, h, _⟩ => ⟨_, h, fun ps z => by unfold DicO at z; cases z⟩
  | .ins c ns vs, ⟨dx, ws, h, _⟩ => ⟨_, h, fun ps z => by cases z⟩
  | .non, h => h.elim
  | .bl _, h => h.elim
  | .int _, h => h.elim
  | .str _, h => h.elim
  | .tup _, h => h.elim
  | .fn _, h => h.elim
  | .ty _, h => h.elim
  | .arr _, h => h.elim
  | .pro _, h => h.elim
  | .adr _, h => h.elim
  | .tab _ _ _, h => h.elim
theorem OwnAt.notTup {K : PySem.W.Frag} {F H : Hp} {p : Addr} {d : D} {xs : List V} (h : OwnAt K F H p d) (e : H p = some (.tup xs)) : False := by
  cases d with
  | lst ds => obtain ⟨ys, q, _⟩ := h; rw [e] at q; cases q
  | dK kvs => have q : H p = some (.dK kvs) := h; rw [e] at q; cases q
  | dT kvs => have q : H p = some (.dT kvs) := h; rw [e] at q; cases q
  | dic P w ks vs => obtain ⟨es, q, _⟩ := h; rw [e] at q; unfold DicO at q; cases q
  | ins c ns vs => obtain ⟨dx, ws, q, _⟩ := h; rw [e] at q; cases q
  | _ => exact h
theorem OwnAt.mono {K : PySem.W.Frag} {T : List (Addr × Str)} {F H F' H' : Hp} {p : Addr} (n : Nx T F H F' H') : ∀ {d : D}, OwnAt K F H p d → OwnAt K F' H' p d
  | .lst ds, ⟨xs, h, r⟩ => ⟨xs, n.keep h fun ps z => (by cases z), RpAll.mono n.f r⟩
  | .dK kvs, h => n.keep h fun ps z => (by cases z)
  | .dT kvs, h => n.keep h fun ps z => (by cases z)
  | .dic P w ks vs, ⟨es, h, r⟩ => ⟨es, n.keep h fun ps z => (by unfold DicO at z; cases z), r.mono n.f⟩
  | .ins c ns vs, ⟨dx, ws, h, r⟩ => ⟨dx, ws, n.keep h fun ps z => (by cases z), r.mono n.f⟩
  | .non, h => h.elim
  | .bl _, h => h.elim
  | .int _, h => h.elim
  | .str _, h => h.elim
  | .tup _, h => h.elim
  | .fn _, h => h.elim
  | .ty _, h => h.elim
  | .arr _, h => h.elim
  | .pro _, h => h.elim
  | .adr _, h => h.elim
  | .tab _ _ _, h => h.elim
structure Rl (K : PySem.W.Frag) (F H : Hp) (σ : L2.St) (ρ : Rho) : Prop where
  len : σ.length = ρ.length
  z : ∀ (i : Nat) (d : D), ρ[i]? = some (En.z d) → ∃ v, σ[i]? = some (some v) ∧ Rp K F v d
  o : ∀ (i : Nat) (d : D), ρ[i]? = some (En.o d) → ∃ p, σ[i]? = some (some (V.ref p)) ∧ F p = none ∧ OwnAt K F H p d
  ne : ∀ (i j : Nat) (d e : D) (p q : Addr), i ≠ j → ρ[i]? = some (En.o d) → ρ[j]? = some (En.o e) → σ[i]? = some (some (V.ref p)) → σ[j]? = some (some (V.ref q)) → p ≠ q
section
variable {K : PySem.W.Frag} {T : List (Addr × Str)} {F H F' H' : Hp} {σ : L2.St} {ρ : Rho}
theorem Rl.mono (n : Nx T F H F' H') (r : Rl K F H σ ρ) : Rl K F' H' σ ρ where
  len := r.len
  z := fun i d e => let ⟨v, h1, h2⟩ := r.z i d e; ⟨v, h1, h2.mono n.f⟩
  o := fun i d e => by
    obtain ⟨p, h1, h2, h3⟩ := r.o i d e
    obtain ⟨o, h4, h5⟩ := h3.solid
    exact ⟨p, h1, n.out h4 h5 h2 (fun xs z => h3.notTup (by rw [h4, z])), h3.mono n⟩
  ne := r.ne
theorem Rl.set {i : Nat} {v : V} {d : D} (r : Rl K F H σ ρ) (h : Rp K F v d) : Rl K F H (σ.set i (some v)) (ρ.set i (.z d)) where
  len := by rw [List.length_set, List.length_set]; exact r.len
  z := fun j e hj => by
    rw [List.getElem?_set] at hj ⊢
    by_cases hij : i = j
    · subst hij
      rw [if_pos rfl] at hj ⊢
      by_cases hl : i < ρ.length
      · rw [if_pos hl] at hj
        rw [if_pos (by rw [r.len]; exact hl)]
        cases hj
        exact ⟨v, rfl, h⟩
      · rw [if_neg hl] at hj; cases hj
    · rw [if_neg hij] at hj ⊢
      exact r.z j e hj
  o := fun j e hj => by
    rw [List.getElem?_set] at hj ⊢
    by_cases hij : i = j
    · subst hij
      rw [if_pos rfl] at hj
      by_cases hl : i < ρ.length
      · rw [if_pos hl] at hj; cases hj
      · rw [if_neg hl] at hj; cases hj
    · rw [if_neg hij] at hj ⊢
      exact r.o j e hj
  ne := fun j k a b p q hn h1 h2 h3 h4 => by
    rw [List.getElem?_set] at h1 h2 h3 h4
    have fj : i ≠ j := fun z => by
      rw [if_pos z] at h1; split at h1 <;> cases h1
    have fk : i ≠ k := fun z => by
      rw [if_pos z] at h2; split at h2 <;> cases h2
    rw [if_neg fj] at h1 h3
    rw [if_neg fk] at h2 h4
    exact r.ne j k a b p q hn h1 h2 h3 h4
theorem Rl.wipe1 {i : Nat} (r : Rl K F H σ ρ) : Rl K F H (σ.set i none) (ρ.set i .u) where
  len := by rw [List.length_set, List.length_set]; exact r.len
  z := fun j e hj => by
    rw [List.getElem?_set] at hj ⊢
    by_cases hij : i = j
    · subst hij
      rw [if_pos rfl] at hj
      split at hj <;> cases hj
    · rw [if_neg hij] at hj ⊢
      exact r.z j e hj
  o := fun j e hj => by
    rw [List.getElem?_set] at hj ⊢
    by_cases hij : i = j
    · subst hij
      rw [if_pos rfl] at hj
      split at hj <;> cases hj
    · rw [if_neg hij] at hj ⊢
      exact r.o j e hj
  ne := fun j k a b p q hn h1 h2 h3 h4 => by
    rw [List.getElem?_set] at h1 h2 h3 h4
    have fj : i ≠ j := fun z => by
      rw [if_pos z] at h1; split at h1 <;> cases h1
    have fk : i ≠ k := fun z => by
      rw [if_pos z] at h2; split at h2 <;> cases h2
    rw [if_neg fj] at h1 h3
    rw [if_neg fk] at h2 h4
    exact r.ne j k a b p q hn h1 h2 h3 h4
end

/-! ### readings by functions of data -/
/-- what is wanted behind: of an α that stands for the β -/
def aft {α β : Type} (R : Hp → α → β → Prop) (K : PySem.W.Frag) (T : List (Addr × Str)) (W : WX) (σ : L2.St) (F H : Hp) (Q : α → Hp → Prop) : Res β → Prop
  | .ok b => ∀ a F' H', Nx T F H F' H' → R F' a b → Q a H'
  | .ex n => ∀ F' H', Nx T F H F' H' → W (.ref (He.ga K n)) none σ H'
  | .bad => False
abbrev RBool : Hp → Bool → Bool → Prop := fun _ a b => a = b
/-- where one stands -/
structure At (K : PySem.W.Frag) (T : List (Addr × Str)) (F H : Hp) (σ : L2.St) (ρ : Rho) : Prop where
  z : Fz F H
  t : Tabs T H
  r : Rl K F H σ ρ
theorem At.nx {K : PySem.W.Frag} {T : List (Addr × Str)} {F H F' H' : Hp} {σ : L2.St} {ρ : Rho} (a : At K T F H σ ρ) (n : Nx T F H F' H') : At K T F' H' σ ρ := ⟨n.z, n.tab a.t, a.r.mono n⟩
def tG {α β : Type} (R : PySem.W.Frag → Hp → α → β → Prop) (K : PySem.W.Frag) (T : List (Addr × Str)) (W : WX) (f : Rho → Res β) : L2.St → Hp → (α → Hp → Prop) → Prop :=
  fun σ H Q => ∃ ρ F, At K T F H σ ρ ∧ aft (R K) K T W σ F H Q (f ρ)
def tE (K : PySem.W.Frag) (T : List (Addr × Str)) (W : WX) (f : Rho → Res D) : TE := tG Rp K T W f
def tA (K : PySem.W.Frag) (T : List (Addr × Str)) (W : WX) (f : Rho → Res (List D)) : TA := tG RpAll K T W f
def tT (K : PySem.W.Frag) (T : List (Addr × Str)) (W : WX) (f : Rho → Res Bool) : TT := tG (fun _ => RBool) K T W f
section
variable {K : PySem.W.Frag} {T : List (Addr × Str)} {W : WX} {σ : L2.St} {F H F' H' : Hp}
theorem aft.mono {α β : Type} {R : Hp → α → β → Prop} {Q : α → Hp → Prop} {r : Res β} (n : Nx T F H F' H') (h : aft R K T W σ F H Q r) : aft R K T W σ F' H' Q r := by
  cases r with
  | ok b => exact fun a F2 H2 n2 ra => h a F2 H2 (n.trans n2) ra
  | ex m => exact fun F2 H2 n2 => h F2 H2 (n.trans n2)
  | bad => exact h
theorem aft.imp {α β : Type} {R : Hp → α → β → Prop} {Q Q' : α → Hp → Prop} {r : Res β} (h : aft R K T W σ F H Q r) (hq : ∀ b, r = .ok b → ∀ a F' H', Nx T F H F' H' → R F' a b → Q a H' → Q' a H') : aft R K T W σ F H Q' r := by
  cases r with
  | ok b => exact fun a F2 H2 n ra => hq b rfl a F2 H2 n ra (h a F2 H2 n ra)
  | ex m => exact h
  | bad => exact h
/-- one thing behind another -/
theorem aft.bind {α β γ δ : Type} {R : Hp → α → β → Prop} {S : Hp → γ → δ → Prop} {Q : γ → Hp → Prop} {r : Res β} {k : β → Res δ} (h : aft S K T W σ F H Q (r.bind k)) :
    aft R K T W σ F H (fun a H1 => ∃ b F1, r = .ok b ∧ Nx T F H F1 H1 ∧ R F1 a b ∧ aft S K T W σ F1 H1 Q (k b)) r := by
  cases r with
  | ok b => exact fun a F2 H2 n ra => ⟨b, F2, rfl, n, ra, aft.mono n h⟩
  | ex m => exact h
  | bad => exact h
theorem aft.ok {α β : Type} {R : Hp → α → β → Prop} {Q : α → Hp → Prop} {b : β} {a : α} {F1 H1 : Hp} (h : aft R K T W σ F H Q (.ok b)) (n : Nx T F H F1 H1) (ra : R F1 a b) : Q a H1 := h a F1 H1 n ra
end
/-- a judgement is weakened -/
theorem _root_.L2.PE.to {X : Cx} {e : Expr} {t u : TE} (h : PE X e t) (k : ∀ σ H Q, u σ H Q → t σ H Q) : PE X e u := ⟨fun pins s σ H Q I q => h.run pins s σ H Q I (k σ H Q q)⟩
theorem _root_.L2.PT.to {X : Cx} {e : Expr} {t u : TT} (h : PT X e t) (k : ∀ σ H Q, u σ H Q → t σ H Q) : PT X e u := ⟨fun pins s σ H Q I q => h.run pins s σ H Q I (k σ H Q q)⟩
theorem _root_.L2.PW.to {X : Cx} {e : Expr} {t u : TT} (h : PW X e t) (k : ∀ σ H Q, u σ H Q → t σ H Q) : PW X e u := ⟨fun whole pins s σ H Q I q => h.run whole pins s σ H Q I (k σ H Q q)⟩
theorem _root_.L2.PA.to {X : Cx} {es : List Expr} {t u : TA} (h : PA X es t) (k : ∀ σ H Q, u σ H Q → t σ H Q) : PA X es u := ⟨fun pos pins s σ H Q I q => h.run pos pins s σ H Q I (k σ H Q q)⟩
theorem _root_.L2.PS.to {X : Cx} {st : Stmt} {t u : TS} (h : PS X st t) (k : ∀ D σ H, u D σ H → t D σ H) : PS X st u := ⟨fun pins s σ H D I q => h.run pins s σ H D I (k D σ H q)⟩
theorem _root_.L2.PSs.to {X : Cx} {st : List Stmt} {t u : TS} (h : PSs X st t) (k : ∀ D σ H, u D σ H → t D σ H) : PSs X st u := ⟨fun pins s σ H D I q => h.run pins s σ H D I (k D σ H q)⟩

/-! ### names, constants, arguments -/
section
variable {X : Cx} {T : List (Addr × Str)} {W : WX}
abbrev DE (X : Cx) (T : List (Addr × Str)) (W : WX) (e : Expr) (f : Rho → Res D) : Prop := PE X e (tE X.K T W f)
abbrev DQ (X : Cx) (T : List (Addr × Str)) (W : WX) (e : Expr) (f : Rho → Res Bool) : Prop := PT X e (tT X.K T W f)
abbrev DW (X : Cx) (T : List (Addr × Str)) (W : WX) (e : Expr) (f : Rho → Res Bool) : Prop := PW X e (tT X.K T W f)
abbrev DA (X : Cx) (T : List (Addr × Str)) (W : WX) (es : List Expr) (f : Rho → Res (List D)) : Prop := PA X es (tA X.K T W f)

def var (i : Nat) : Rho → Res D := fun ρ => match ρ[i]? with
  | some (.z d) => .ok d
  | _ => .bad
theorem e_var {i : Nat} {x : Str} {pos : Pos} (h : PE X (.Name x pos) (tVar i)) : DE X T W (.Name x pos) (var i) := h.to fun σ H Q hq => by
  obtain ⟨ρ, F, a, h⟩ := hq
  unfold var at h
  cases e : ρ[i]? with
  | none => rw [e] at h; exact h.elim
  | some en =>
    rw [e] at h
    cases en with
    | u => exact h.elim
    | o d => exact h.elim
    | z d =>
      obtain ⟨v, h1, h2⟩ := a.r.z i d e
      exact ⟨v, h1, h v F H (Nx.refl a.z) h2⟩
def con (d : D) : Rho → Res D := fun _ => .ok d
theorem e_c {e : Expr} {v : V} {d : D} (h : PE X e (tC v)) (r : ∀ F, Rp X.K F v d) : DE X T W e (con d) := h.to fun σ H Q ⟨ρ, F, a, h⟩ => h v F H (Nx.refl a.z) (r F)
theorem e_int {i j pos} : DE X T W (.Constant (.int i) j pos) (con (.int i)) := e_c pe_int fun _ => .int i
theorem e_bl {b j pos} : DE X T W (.Constant (.bool b) j pos) (con (.bl b)) := e_c pe_bl fun _ => .bl b
theorem e_str {x j pos} : DE X T W (.Constant (.str x) j pos) (con (.str x)) := e_c pe_str fun _ => .str x

def anil : Rho → Res (List D) := fun _ => .ok []
def acons (f : Rho → Res D) (g : Rho → Res (List D)) : Rho → Res (List D) := fun ρ => (f ρ).bind fun d => (g ρ).bind fun ds => .ok (d :: ds)
theorem a_nil : DA X T W [] anil := pa_nil.to fun σ H Q ⟨ρ, F, a, h⟩ => h [] F H (Nx.refl a.z) .nil
theorem a_cons {e : Expr} {es : List Expr} {f : Rho → Res D} {g : Rho → Res (List D)} (he : DE X T W e f) (hs : DA X T W es g) (hstar : starEach (e :: es) X.env = (false, eval e X.env) :: starEach es X.env := by rfl) : DA X T W (e :: es) (acons f g) :=
  (pa_cons he hs hstar).to fun σ H Q ⟨ρ, F, a, h⟩ => by
    refine ⟨ρ, F, a, (aft.bind (R := Rp X.K) h).imp fun d _ v F1 H1 _ _ q => ?_⟩
    obtain ⟨b, F2, _, n, rv, q⟩ := q
    refine ⟨ρ, F2, a.nx n, (aft.bind (R := RpAll X.K) q).imp fun ds _ vs F3 H3 _ _ q => ?_⟩
    obtain ⟨ds', F4, _, n2, rs, q⟩ := q
    exact q.ok (Nx.refl n2.z) (.cons (rv.mono n2.f) rs)
end
end DN
namespace DN
open PySem PySem.Spec PyProof.Rows L2
open LamX (Tabs ExtN)
open PySem.Builtin.Str (tooLong)

/-! ### operators -/
/-- an operation on values, by a function of data -/
def rD2 (K : PySem.W.Frag) (T : List (Addr × Str)) (G : D → D → Option D) : R2 := fun x y H Q =>
  ∃ F d e z, Fz F H ∧ Rp K F x d ∧ Rp K F y e ∧ G d e = some z ∧ ∀ v F' H', Nx T F H F' H' → Rp K F' v z → Q v H'
def rD1 (K : PySem.W.Frag) (T : List (Addr × Str)) (G : D → Option D) : V → Hp → VK → Prop := fun x H Q =>
  ∃ F d z, Fz F H ∧ Rp K F x d ∧ G d = some z ∧ ∀ v F' H', Nx T F H F' H' → Rp K F' v z → Q v H'
def rDn (K : PySem.W.Frag) (T : List (Addr × Str)) (G : List D → Option D) : List V → Hp → VK → Prop := fun xs H Q =>
  ∃ F ds z, Fz F H ∧ RpAll K F xs ds ∧ G ds = some z ∧ ∀ v F' H', Nx T F H F' H' → Rp K F' v z → Q v H'
def bop (G : D → D → Option D) (f g : Rho → Res D) : Rho → Res D := fun ρ => (f ρ).bind fun d => (g ρ).bind fun e => ofO (G d e)
def una (G : D → Option D) (f : Rho → Res D) : Rho → Res D := fun ρ => (f ρ).bind fun d => ofO (G d)
def cal (G : List D → Option D) (f : Rho → Res (List D)) : Rho → Res D := fun ρ => (f ρ).bind fun ds => ofO (G ds)
section
variable {X : Cx} {T : List (Addr × Str)} {W : WX}
theorem ofO_ok {α : Type} {o : Option α} {K : PySem.W.Frag} {σ : L2.St} {F H : Hp} {β : Type} {R : Hp → β → α → Prop} {Q : β → Hp → Prop} (h : aft R K T W σ F H Q (ofO o)) : ∃ a, o = some a ∧ ∀ b F' H', Nx T F H F' H' → R F' b a → Q b H' := by
  cases o with
  | none => exact h.elim
  | some a => exact ⟨a, rfl, h⟩
theorem bin_to {K : PySem.W.Frag} {G : D → D → Option D} {f g : Rho → Res D} {σ : L2.St} {H : Hp} {Q : VK} (h : tE K T W (bop G f g) σ H Q) : tOp (rD2 K T G) (tE K T W f) (tE K T W g) σ H Q := by
  obtain ⟨ρ, F, a, h⟩ := h
  refine ⟨ρ, F, a, (aft.bind (R := Rp K) h).imp fun d _ v F1 H1 _ _ q => ?_⟩
  obtain ⟨b, F2, _, n, rv, q⟩ := q
  refine ⟨ρ, F2, a.nx n, (aft.bind (R := Rp K) q).imp fun ds _ vs F3 H3 _ _ q => ?_⟩
  obtain ⟨e, F4, _, n2, rs, q⟩ := q
  obtain ⟨z, hz, q⟩ := ofO_ok q
  exact ⟨F4, b, e, z, n2.z, rv.mono n2.f, rs, hz, q⟩
theorem e_bin {op : Operator} {G : D → D → Option D} {a b : Expr} {f g : Rho → Res D} {pos : Pos} (ho : OpR X (binaryOp op) (rD2 X.K T G)) (ha : DE X T W a f) (hb : DE X T W b g) : DE X T W (.BinOp a op b pos) (bop G f g) :=
  (pe_op ho ha hb).to fun _ _ _ h => bin_to h
theorem e_una {op : UnaryOp} {G : D → Option D} {a : Expr} {f : Rho → Res D} {pos : Pos} (ho : UnR X (unaryOp op) (rD1 X.K T G)) (ha : DE X T W a f) : DE X T W (.UnaryOp op a pos) (una G f) :=
  (pe_un ho ha).to fun σ H Q ⟨ρ, F, a, h⟩ => by
    refine ⟨ρ, F, a, (aft.bind (R := Rp X.K) h).imp fun d _ v F1 H1 _ _ q => ?_⟩
    obtain ⟨b, F2, _, n, rv, q⟩ := q
    obtain ⟨z, hz, q⟩ := ofO_ok q
    exact ⟨F2, b, z, n.z, rv, hz, q⟩
theorem e_cmp {op : CmpOp} {G : D → D → Option D} {a b : Expr} {f g : Rho → Res D} {pos : Pos} (ho : OpR X (compareOp op) (rD2 X.K T G)) (ha : DE X T W a f) (hb : DE X T W b g) (hm : behindInMarks op b = false) : DE X T W (.Compare a [op] [b] pos) (bop G f g) :=
  (pe_cmpR ho ha hb hm).to fun _ _ _ h => bin_to h
/-- a comparison's answer -/
def ans : D → Res Bool
  | .bl b => .ok b
  | _ => .bad
def tst (f : Rho → Res D) : Rho → Res Bool := fun ρ => (f ρ).bind ans
theorem tst_to {K : PySem.W.Frag} {f : Rho → Res D} {σ : L2.St} {H : Hp} {Q : Bool → Hp → Prop} (h : tT K T W (tst f) σ H Q) : tE K T W f σ H fun x H' => ∃ k, x = .bl k ∧ Q k H' := by
  obtain ⟨ρ, F, a, h⟩ := h
  refine ⟨ρ, F, a, (aft.bind (R := Rp K) h).imp fun d _ v F1 H1 _ _ q => ?_⟩
  obtain ⟨b, F2, _, n, rv, q⟩ := q
  cases b with
  | bl k =>
    cases rv
    exact ⟨k, rfl, q k F2 H1 (Nx.refl n.z) rfl⟩
  | _ => exact q.elim
theorem q_cmp {op : CmpOp} {G : D → D → Option D} {a b : Expr} {f g : Rho → Res D} {pos : Pos} (ho : OpR X (compareOp op) (rD2 X.K T G)) (ha : DE X T W a f) (hb : DE X T W b g) (hm : behindInMarks op b = false) : DQ X T W (.Compare a [op] [b] pos) (tst (bop G f g)) :=
  (pt_cmpR ho ha hb hm).to fun σ H Q h => by
    have h2 := tst_to h
    exact bin_to h2
end

/-! the operators' functions -/
def CMulD (i j : Int) : Prop := CMul i j ∨ CMulW i j
instance : Decidable (CMulD i j) := by unfold CMulD CMul CMulW; infer_instance
instance : Decidable (CDivW i j) := by unfold CDivW; infer_instance
def repS (x : Str) (n : Int) : Str := ⟨((List.replicate n.toNat x.cps.toList).flatten).toArray⟩
def addD : D → D → Option D
  | .int i, .int j => some (.int (i + j))
  | .str x, .str y => if x.length + y.length ≤ sizeLine then some (.str (x ++ y)) else none
  | .tup xs, .tup ys => if xs.length + ys.length ≤ sizeLine then some (.tup (xs ++ ys)) else none
  | .lst xs, .lst ys => if xs.length + ys.length ≤ sizeLine then some (.lst (xs ++ ys)) else none
  | _, _ => none
def subD : D → D → Option D
  | .int i, .int j => some (.int (i - j))
  | _, _ => none
def mulD : D → D → Option D
  | .int i, .int j => if CMulD i j then some (.int (i * j)) else none
  | .str x, .int n => if n ≤ 1000000 ∧ -1000000 ≤ n ∧ x.length * n.toNat ≤ 1000000 then some (.str (repS x n)) else none
  | .tup xs, .int k => if 2 ≤ k ∧ k ≤ 1000 ∧ xs.isEmpty = false ∧ xs.length ≤ 1000 then some (.tup (List.replicate k.toNat xs).flatten) else none
  | _, _ => none
def divD : D → D → Option D
  | .int i, .int j => if CDivW i j then some (.int (i / j)) else none
  | _, _ => none
def modD : D → D → Option D
  | .int i, .int j => if 0 < j then some (.int (i % j)) else none
  | _, _ => none
def negD : D → Option D
  | .int i => some (.int (-i))
  | _ => none
def ltD : D → D → Option D
  | .int i, .int j => some (.bl (decide (i < j)))
  | _, _ => none
def leD : D → D → Option D
  | .int i, .int j => some (.bl (decide (i ≤ j)))
  | _, _ => none
def gtD : D → D → Option D
  | .int i, .int j => some (.bl (decide (j < i)))
  | _, _ => none
def geD : D → D → Option D
  | .int i, .int j => some (.bl (decide (j ≤ i)))
  | _, _ => none
def isN : D → D → Option D
  | .non, .non => some (.bl true)
  | _, .non => some (.bl false)
  | _, _ => none
section
variable {X : Cx} {T : List (Addr × Str)} {W : WX}
theorem done0 {K : PySem.W.Frag} {F H : Hp} {z : D} {v : V} {Q : VK} (hz : Fz F H) (q : ∀ v F' H', Nx T F H F' H' → Rp K F' v z → Q v H') (r : Rp K F v z) : Q v H := q v F H (Nx.refl hz) r
theorem donep {K : PySem.W.Frag} {F H : Hp} {z : D} {p : Addr} {o : HO} {Q : VK} (hz : Fz F H) (hp : H p = none) (ho : ∀ ps, o ≠ .tbl ps) (q : ∀ v F' H', Nx T F H F' H' → Rp K F' v z → Q v H') (r : Rp K (upd F p o) (.ref p) z) : Q (.ref p) (upd H p o) :=
  q _ _ _ (Nx.push hz hp ho) r
theorem rp_tup {K : PySem.W.Frag} {F H : Hp} {p : Addr} {xs : List V} {ds : List D} (hz : Fz F H) (hp : H p = none) (r : RpAll K F xs ds) : Rp K (upd F p (.tup xs)) (.ref p) (.tup ds) :=
  .tup (.inl (.inl upd_same)) (r.mono (Nx.push (T := []) (o := .tup xs) hz hp (fun ps z => by cases z)).f)
theorem rp_lst {K : PySem.W.Frag} {F H : Hp} {p : Addr} {xs : List V} {ds : List D} (hz : Fz F H) (hp : H p = none) (r : RpAll K F xs ds) : Rp K (upd F p (.lst xs)) (.ref p) (.lst ds) :=
  .lst upd_same (r.mono (Nx.push (T := []) (o := .lst xs) hz hp (fun ps z => by cases z)).f)
theorem ntT {xs : List V} : ∀ ps, HO.tup xs ≠ .tbl ps := fun _ z => by cases z
theorem ntL {xs : List V} : ∀ ps, HO.lst xs ≠ .tbl ps := fun _ z => by cases z
theorem RpAll.nil_iff {K : PySem.W.Frag} {F : Hp} {xs : List V} {ds : List D} (r : RpAll K F xs ds) : xs = [] ↔ ds = [] := by
  cases r with
  | nil => simp
  | cons _ _ => simp
theorem o_add : OpR X (binaryOp .Add) (rD2 X.K T addD) := by
  intro pins s σ H x y v u Q I rx ry h
  obtain ⟨F, d, e, z, hz, rd, re, hG, q⟩ := h
  cases rd with
  | int i =>
    cases re with
    | int j => cases hG; exact op_add pins s σ H _ _ v u Q I rx ry ⟨i, j, rfl, rfl, done0 hz q (.int _)⟩
    | _ => cases hG
  | str i =>
    cases re with
    | str j =>
      have hG : (if i.length + j.length ≤ sizeLine then some (D.str (i ++ j)) else none) = some z := hG
      split at hG
      · rename_i hl
        cases hG
        exact op_add_str pins s σ H _ _ v u Q I rx ry ⟨i, j, rfl, rfl, hl, done0 hz q (.str _)⟩
      · cases hG
    | _ => cases hG
  | tup h1 r1 =>
    cases re with
    | tup h2 r2 =>
      rename_i a xs ds b ys es
      have hG : (if ds.length + es.length ≤ sizeLine then some (D.tup (ds ++ es)) else none) = some z := hG
      split at hG
      · rename_i hl
        cases hG
        refine op_catA pins s σ H _ _ v u Q I rx ry ⟨a, b, xs, ys, rfl, rfl, hz.sub.st h1, hz.sub.st h2, by rw [r1.length, r2.length]; exact hl, fun e => ?_, fun e1 e2 => ?_, fun e1 e2 p hp => ?_⟩
        · have e' := r1.nil_iff.mp e
          subst e'
          exact done0 hz q (.tup h2 r2)
        · have e' := r2.nil_iff.mp e2
          subst e'
          rw [List.append_nil] at q
          exact done0 hz q (.tup h1 r1)
        · exact donep hz hp ntT q (rp_tup hz hp (r1.append r2))
      · cases hG
    | _ => cases hG
  | lst h1 r1 =>
    cases re with
    | lst h2 r2 =>
      rename_i a xs ds b ys es
      have hG : (if ds.length + es.length ≤ sizeLine then some (D.lst (ds ++ es)) else none) = some z := hG
      split at hG
      · rename_i hl
        cases hG
        exact op_cat pins s σ H _ _ v u Q I rx ry ⟨a, b, xs, ys, rfl, rfl, hz.sub _ _ h1, hz.sub _ _ h2, by rw [r1.length, r2.length]; exact hl, fun p hp => donep hz hp ntL q (rp_lst hz hp (r1.append r2))⟩
      · cases hG
    | _ => cases hG
  | _ => cases hG
theorem o_sub : OpR X (binaryOp .Sub) (rD2 X.K T subD) := by
  intro pins s σ H x y v u Q I rx ry h
  obtain ⟨F, d, e, z, hz, rd, re, hG, q⟩ := h
  cases rd with
  | int i =>
    cases re with
    | int j => cases hG; exact op_sub pins s σ H _ _ v u Q I rx ry ⟨i, j, rfl, rfl, done0 hz q (.int _)⟩
    | _ => cases hG
  | _ => cases hG
theorem foldA (x : Array Nat) : ∀ (n : Nat) (acc : Array Nat), (List.replicate n x).foldl (· ++ ·) acc = (acc.toList ++ (List.replicate n x.toList).flatten).toArray
  | 0, acc => by simp
  | n + 1, acc => by
    rw [List.replicate_succ, List.foldl_cons, foldA x n]
    simp [List.replicate_succ]
theorem fold_rep (x : Array Nat) (n : Nat) : (List.replicate n x).foldl (· ++ ·) #[] = ((List.replicate n x.toList).flatten).toArray := by
  rw [foldA]; simp
theorem sizeLine_val : (sizeLine : Nat) = 16777216 := sizeLine_eq
theorem o_mul_str {pins : List (Addr × Obj)} {s : Shared} {σ : L2.St} {H : Hp} {Q : VK} {x : Str} {n : Int} {t u : Tok} (I : Inv X pins σ H s) (h1 : n ≤ 1000000) (h2 : -1000000 ≤ n) (h3 : x.length * n.toNat ≤ 1000000) (q : Q (.str (repS x n)) H) :
    wpAny (model X.prog X.w) X.A (binaryOp .Mult (.str x t) (.int n u)) (EP X pins σ Q) X.xe s := by
  have tl : tooLong (x.length * n.toNat) = false := by
    unfold tooLong
    refine decide_eq_false ?_
    rw [sizeLine_val]
    omega
  refine PySem.P.mul_str (by rw [decide_eq_false (by omega), decide_eq_false (by omega)]; rfl) (fun g1 g2 => ?_) (fun _ _ => tl) ?_
  · intro hgt
    have hx : x.length ≤ 1000000 := by
      have hn : 1 ≤ n.toNat := by omega
      have := Nat.mul_le_mul_left x.length hn
      omega
    have hd : (2 ^ 63 - 1) / 1000000 ≤ (2 ^ 63 - 1 : Int) / n := by
      apply Int.le_ediv_of_mul_le (by omega)
      have : ((2 ^ 63 - 1 : Int) / 1000000) * n ≤ ((2 ^ 63 - 1 : Int) / 1000000) * 1000000 := Int.mul_le_mul_of_nonneg_left h1 (by decide)
      exact Int.le_trans this (by decide)
    have h0 : (1000000 : Int) ≤ (2 ^ 63 - 1) / 1000000 := by decide
    omega
  · by_cases g1 : n < 1
    · rw [if_pos g1]
      have e : repS x n = Str.empty := by
        unfold repS
        rw [show n.toNat = 0 by omega] <;> rfl
      rw [e] at q
      exact ⟨by decide, ⟨.str Str.empty, H, I.tok _, ⟨_, rfl⟩, q⟩⟩
    · rw [if_neg g1]
      by_cases g2 : (n == 1 || x.length == 0) = true
      · rw [if_pos g2]
        have e : repS x n = x := by
          unfold repS
          rw [Bool.or_eq_true, beq_iff_eq, beq_iff_eq] at g2
          rcases g2 with g | g
          · subst g
            show (⟨(([x.cps.toList] : List (List Nat)).flatten).toArray⟩ : Str) = x
            simp
          · have : x.cps = #[] := Array.eq_empty_of_size_eq_zero g
            cases x
            simp only at this
            subst this
            simp
        rw [e] at q
        exact ⟨.str x, H, I, ⟨_, rfl⟩, q⟩
      · rw [if_neg g2, fold_rep]
        refine ⟨?_, ⟨.str (repS x n), H, I.tok _, ⟨_, rfl⟩, q⟩⟩
        rw [sizeLine_val]
        show ((List.replicate n.toNat x.cps.toList).flatten).toArray.size ≤ _
        rw [List.size_toArray, List.length_flatten]
        simp
        have e : n.toNat * x.cps.size = x.length * n.toNat := Nat.mul_comm _ _
        rw [e]
        omega
theorem o_mul : OpR X (binaryOp .Mult) (rD2 X.K T mulD) := by
  intro pins s σ H x y v u Q I rx ry h
  obtain ⟨F, d, e, z, hz, rd, re, hG, q⟩ := h
  cases rd with
  | int i =>
    cases re with
    | int j =>
      have hG : (if CMulD i j then some (D.int (i * j)) else none) = some z := hG
      split at hG
      · rename_i hc
        cases hG
        rcases hc with hc | hc
        · exact op_mul pins s σ H _ _ v u Q I rx ry ⟨i, j, rfl, rfl, hc, done0 hz q (.int _)⟩
        · exact op_mulW pins s σ H _ _ v u Q I rx ry ⟨i, j, rfl, rfl, hc, done0 hz q (.int _)⟩
      · cases hG
    | _ => cases hG
  | str x =>
    cases re with
    | int n =>
      have hG : (if n ≤ 1000000 ∧ -1000000 ≤ n ∧ x.length * n.toNat ≤ 1000000 then some (D.str (repS x n)) else none) = some z := hG
      split at hG
      · rename_i hc
        cases hG
        obtain ⟨t, rfl⟩ := rx
        obtain ⟨t', rfl⟩ := ry
        exact o_mul_str I hc.1 hc.2.1 hc.2.2 (done0 hz q (.str _))
      · cases hG
    | _ => cases hG
  | tup h1 r1 =>
    cases re with
    | int k =>
      rename_i a xs ds
      have hG : (if 2 ≤ k ∧ k ≤ 1000 ∧ ds.isEmpty = false ∧ ds.length ≤ 1000 then some (D.tup (List.replicate k.toNat ds).flatten) else none) = some z := hG
      split at hG
      · rename_i hc
        cases hG
        obtain ⟨c1, c2, c3, c4⟩ := hc
        have many : ∀ n, RpAll X.K F (List.replicate n xs).flatten (List.replicate n ds).flatten := fun n => by
          induction n with
          | zero => exact .nil
          | succ n ih => simpa [List.replicate_succ] using r1.append ih
        have some_ : xs ≠ [] := fun z => by
          subst z
          cases r1
          cases c3
        exact op_repT pins s σ H _ _ v u Q I rx ry ⟨a, k, xs, rfl, rfl, hz.sub.st h1, some_, c1, c2, by rw [r1.length]; exact c4, fun p hp => donep hz hp ntT q (rp_tup hz hp (many _))⟩
      · cases hG
    | _ => cases hG
  | _ => cases hG
theorem o_div : OpR X (binaryOp .FloorDiv) (rD2 X.K T divD) := by
  intro pins s σ H x y v u Q I rx ry h
  obtain ⟨F, d, e, z, hz, rd, re, hG, q⟩ := h
  cases rd with
  | int i =>
    cases re with
    | int j =>
      have hG : (if CDivW i j then some (D.int (i / j)) else none) = some z := hG
      split at hG
      · rename_i hc
        cases hG
        exact op_fdivW pins s σ H _ _ v u Q I rx ry ⟨i, j, rfl, rfl, hc, done0 hz q (.int _)⟩
      · cases hG
    | _ => cases hG
  | _ => cases hG
theorem o_mod : OpR X (binaryOp .Mod) (rD2 X.K T modD) := by
  intro pins s σ H x y v u Q I rx ry h
  obtain ⟨F, d, e, z, hz, rd, re, hG, q⟩ := h
  cases rd with
  | int i =>
    cases re with
    | int j =>
      have hG : (if 0 < j then some (D.int (i % j)) else none) = some z := hG
      split at hG
      · rename_i hc
        cases hG
        exact op_mod pins s σ H _ _ v u Q I rx ry ⟨i, j, rfl, rfl, hc, done0 hz q (.int _)⟩
      · cases hG
    | _ => cases hG
  | _ => cases hG
theorem u_neg : UnR X (unaryOp .USub) (rD1 X.K T negD) := by
  intro pins s σ H x v Q I rx h
  obtain ⟨F, d, z, hz, rd, hG, q⟩ := h
  cases rd with
  | int i => cases hG; exact un_neg pins s σ H _ v Q I rx ⟨i, rfl, done0 hz q (.int _)⟩
  | _ => cases hG
theorem o_lt : OpR X (compareOp .Lt) (rD2 X.K T ltD) := by
  intro pins s σ H x y v u Q I rx ry h
  obtain ⟨F, d, e, z, hz, rd, re, hG, q⟩ := h
  cases rd with
  | int i =>
    cases re with
    | int j => cases hG; exact op_lt pins s σ H _ _ v u Q I rx ry ⟨i, j, rfl, rfl, done0 hz q (.bl _)⟩
    | _ => cases hG
  | _ => cases hG
theorem o_le : OpR X (compareOp .LtE) (rD2 X.K T leD) := by
  intro pins s σ H x y v u Q I rx ry h
  obtain ⟨F, d, e, z, hz, rd, re, hG, q⟩ := h
  cases rd with
  | int i =>
    cases re with
    | int j => cases hG; exact op_le pins s σ H _ _ v u Q I rx ry ⟨i, j, rfl, rfl, done0 hz q (.bl _)⟩
    | _ => cases hG
  | _ => cases hG
theorem o_gt : OpR X (compareOp .Gt) (rD2 X.K T gtD) := by
  intro pins s σ H x y v u Q I rx ry h
  obtain ⟨F, d, e, z, hz, rd, re, hG, q⟩ := h
  cases rd with
  | int i =>
    cases re with
    | int j => cases hG; exact op_gt pins s σ H _ _ v u Q I rx ry ⟨i, j, rfl, rfl, done0 hz q (.bl _)⟩
    | _ => cases hG
  | _ => cases hG
theorem o_ge : OpR X (compareOp .GtE) (rD2 X.K T geD) := by
  intro pins s σ H x y v u Q I rx ry h
  obtain ⟨F, d, e, z, hz, rd, re, hG, q⟩ := h
  cases rd with
  | int i =>
    cases re with
    | int j => cases hG; exact op_ge pins s σ H _ _ v u Q I rx ry ⟨i, j, rfl, rfl, done0 hz q (.bl _)⟩
    | _ => cases hG
  | _ => cases hG
end
end DN
namespace DN
open PySem PySem.Spec PyProof.Rows L2
open LamX (Tabs ExtN)

/-! ### tests, and, or, not, chains -/
def andQ (f g : Rho → Res Bool) : Rho → Res Bool := fun ρ => (f ρ).bind fun b => if b = true then g ρ else .ok false
def orQ (f g : Rho → Res Bool) : Rho → Res Bool := fun ρ => (f ρ).bind fun b => if b = true then .ok true else g ρ
def notQ (f : Rho → Res Bool) : Rho → Res Bool := fun ρ => (f ρ).bind fun b => .ok (!b)
def andE (f g : Rho → Res D) : Rho → Res D := fun ρ => (f ρ).bind fun d => (ans d).bind fun b => if b = true then g ρ else .ok (.bl false)
def orE (f g : Rho → Res D) : Rho → Res D := fun ρ => (f ρ).bind fun d => (ans d).bind fun b => if b = true then .ok (.bl true) else g ρ
def notE (f : Rho → Res D) : Rho → Res D := fun ρ => (f ρ).bind fun d => (ans d).bind fun b => .ok (.bl (!b))
def chn (G G' : D → D → Option D) (f g h : Rho → Res D) : Rho → Res D := fun ρ => (f ρ).bind fun d => (g ρ).bind fun e => (ofO (G d e)).bind fun z => (ans z).bind fun k => if k = true then (h ρ).bind fun c => ofO (G' e c) else .ok (.bl false)
section
variable {X : Cx} {T : List (Addr × Str)} {W : WX}
theorem q_val {e : Expr} {f : Rho → Res D} (h : DE X T W e f) (he : ∀ whole, isTrue e X.env whole = (do let v ← whole; standAt e.pos; holding [v] (truthy v)) := by intro _; rfl) : DQ X T W e (tst f) :=
  (pt_val h he).to fun _ _ _ h => tst_to h
theorem w_and1 {a : Expr} {pos : Pos} {f : Rho → Res Bool} (h : DQ X T W a f) : DW X T W (.BoolOp .And [a] pos) f := pw_and1 h
theorem w_or1 {a : Expr} {pos : Pos} {f : Rho → Res Bool} (h : DQ X T W a f) : DW X T W (.BoolOp .Or [a] pos) f := pw_or1 h
theorem w_and {a b : Expr} {rest : List Expr} {pos : Pos} {f g : Rho → Res Bool} (h : DQ X T W a f) (h2 : DW X T W (.BoolOp .And (b :: rest) pos) g) : DW X T W (.BoolOp .And (a :: b :: rest) pos) (andQ f g) :=
  (pw_and h h2).to fun σ H Q ⟨ρ, F, a, h⟩ => by
    refine ⟨ρ, F, a, (aft.bind (R := RBool) h).imp fun d _ v F1 H1 _ _ q => ?_⟩
    obtain ⟨b, F2, _, n, rv, q⟩ := q
    obtain rfl : v = b := rv
    cases v with
    | true => exact ⟨ρ, F2, a.nx n, q⟩
    | false => exact q.ok (Nx.refl n.z) rfl
theorem w_or {a b : Expr} {rest : List Expr} {pos : Pos} {f g : Rho → Res Bool} (h : DQ X T W a f) (h2 : DW X T W (.BoolOp .Or (b :: rest) pos) g) : DW X T W (.BoolOp .Or (a :: b :: rest) pos) (orQ f g) :=
  (pw_or h h2).to fun σ H Q ⟨ρ, F, a, h⟩ => by
    refine ⟨ρ, F, a, (aft.bind (R := RBool) h).imp fun d _ v F1 H1 _ _ q => ?_⟩
    obtain ⟨b, F2, _, n, rv, q⟩ := q
    obtain rfl : v = b := rv
    cases v with
    | true => exact q.ok (Nx.refl n.z) rfl
    | false => exact ⟨ρ, F2, a.nx n, q⟩
theorem q_w {e : Expr} {f : Rho → Res Bool} (h : DW X T W e f) : DQ X T W e f := PW.pt h
theorem q_not {a : Expr} {pos : Pos} {f : Rho → Res Bool} (h : DQ X T W a f) : DQ X T W (.UnaryOp .Not a pos) (notQ f) :=
  (pt_not h).to fun σ H Q ⟨ρ, F, a, h⟩ => by
    refine ⟨ρ, F, a, (aft.bind (R := RBool) h).imp fun d _ v F1 H1 _ _ q => ?_⟩
    obtain ⟨b, F2, _, n, rv, q⟩ := q
    obtain rfl : v = b := rv
    exact q.ok (Nx.refl n.z) rfl
theorem e_one {op} {a : Expr} {pos : Pos} {f : Rho → Res D} (h : DE X T W a f) : DE X T W (.BoolOp op [a] pos) f := pe_one h
theorem bool_of {K : PySem.W.Frag} {σ : L2.St} {F H : Hp} {α β : Type} {R : Hp → α → β → Prop} {Q : α → Hp → Prop} {d : D} {v : V} {k : Bool → Res β} (rv : Rp K F v d) (q : aft R K T W σ F H Q ((ans d).bind k)) : ∃ c, v = .bl c ∧ d = .bl c ∧ aft R K T W σ F H Q (k c) := by
  cases rv with
  | bl c => exact ⟨c, rfl, rfl, q⟩
  | _ => exact q.elim
theorem e_and {a b : Expr} {rest : List Expr} {pos : Pos} {f g : Rho → Res D} (h : DE X T W a f) (h2 : DE X T W (.BoolOp .And (b :: rest) pos) g) : DE X T W (.BoolOp .And (a :: b :: rest) pos) (andE f g) :=
  (pe_and h h2).to fun σ H Q ⟨ρ, F, a, h⟩ => by
    refine ⟨ρ, F, a, (aft.bind (R := Rp X.K) h).imp fun d _ v F1 H1 _ _ q => ?_⟩
    obtain ⟨b, F2, _, n, rv, q⟩ := q
    obtain ⟨c, rfl, rfl, q⟩ := bool_of rv q
    refine ⟨c, rfl, ?_⟩
    cases c with
    | true => exact ⟨ρ, F2, a.nx n, q⟩
    | false => exact q.ok (Nx.refl n.z) (.bl false)
theorem e_or {a b : Expr} {rest : List Expr} {pos : Pos} {f g : Rho → Res D} (h : DE X T W a f) (h2 : DE X T W (.BoolOp .Or (b :: rest) pos) g) : DE X T W (.BoolOp .Or (a :: b :: rest) pos) (orE f g) :=
  (pe_or h h2).to fun σ H Q ⟨ρ, F, a, h⟩ => by
    refine ⟨ρ, F, a, (aft.bind (R := Rp X.K) h).imp fun d _ v F1 H1 _ _ q => ?_⟩
    obtain ⟨b, F2, _, n, rv, q⟩ := q
    obtain ⟨c, rfl, rfl, q⟩ := bool_of rv q
    refine ⟨c, rfl, ?_⟩
    cases c with
    | true => exact q.ok (Nx.refl n.z) (.bl true)
    | false => exact ⟨ρ, F2, a.nx n, q⟩
theorem chn_to {G G' : D → D → Option D} {K : PySem.W.Frag} {f g h : Rho → Res D} {σ : L2.St} {H : Hp} {Q : VK} (hh : tE K T W (chn G G' f g h) σ H Q) : tChain (rD2 K T G) (rD2 K T G') (tE K T W f) (tE K T W g) (tE K T W h) σ H Q := by
  obtain ⟨ρ, F, a, h⟩ := hh
  refine ⟨ρ, F, a, (aft.bind (R := Rp K) h).imp fun d _ v F1 H1 _ _ q => ?_⟩
  obtain ⟨b, F2, _, n, rv, q⟩ := q
  refine ⟨ρ, F2, a.nx n, (aft.bind (R := Rp K) q).imp fun ds _ vs F3 H3 _ _ q => ?_⟩
  obtain ⟨e, F4, _, n2, rs, q⟩ := q
  have q1 := aft.bind (R := Rp K) q
  obtain ⟨z, hz, q2⟩ := ofO_ok q1
  refine ⟨F4, b, e, z, n2.z, rv.mono n2.f, rs, hz, fun v' F' H' n3 rz => ?_⟩
  obtain ⟨z', F5, ez, n4, rz', q3⟩ := q2 v' F' H' n3 rz
  rw [hz] at ez
  obtain rfl : z = z' := by injection ez
  obtain ⟨k, rfl, rfl, q4⟩ := bool_of rz' q3
  refine ⟨k, rfl, ?_⟩
  cases k with
  | false => exact q4.ok (Nx.refl n4.z) (.bl false)
  | true =>
    refine ⟨ρ, F5, (a.nx (n.trans (n2.trans n4))), (aft.bind (R := Rp K) q4).imp fun c _ w F6 H6 _ _ q => ?_⟩
    obtain ⟨c', F7, _, n5, rc, q⟩ := q
    obtain ⟨z2, hz2, q⟩ := ofO_ok q
    exact ⟨F7, e, c', z2, n5.z, rs.mono (n4.trans n5).f, rc, hz2, q⟩
theorem e_chn {op op' : CmpOp} {G G' : D → D → Option D} {a b c : Expr} {f g h : Rho → Res D} {pos : Pos} (ho : OpR X (compareOp op) (rD2 X.K T G)) (ho' : OpR X (compareOp op') (rD2 X.K T G')) (ha : DE X T W a f) (hb : DE X T W b g) (hc : DE X T W c h)
    (hm : lastMarks [op, op'] [b, c] = false := by with_unfolding_all rfl) : DE X T W (.Compare a [op, op'] [b, c] pos) (chn G G' f g h) :=
  (pe_chain ho ho' ha hb hc hm).to fun _ _ _ h => chn_to h
end

/-! ### displays, subscripts, slices -/
def mkT (f : Rho → Res (List D)) : Rho → Res D := fun ρ => (f ρ).bind fun ds => if ds.length ≤ sizeLine then .ok (.tup ds) else .bad
def mkL (f : Rho → Res (List D)) : Rho → Res D := fun ρ => (f ρ).bind fun ds => if ds.length ≤ sizeLine then .ok (.lst ds) else .bad
def ixD : D → D → Option D
  | .tup xs, .int i => atI xs i
  | .lst xs, .int i => atI xs i
  | .arr ns, .int i => (atI ns i).map .int
  | .str x, .int i => if x.length ≤ sizeLine then (atI x.cps.toList i).map fun c => .str ⟨#[c]⟩ else none
  | _, _ => none
def cutD (xs : List D) (lo hi : Option Int) : List D := (xs.drop (HT.sIx xs.length 0 lo)).take (HT.sIx xs.length xs.length hi - HT.sIx xs.length 0 lo)
def slD : D → Option Int → Option Int → Option D
  | .tup xs, lo, hi => some (.tup (cutD xs lo hi))
  | .lst xs, lo, hi => some (.lst (cutD xs lo hi))
  | .str x, lo, hi => if x.length ≤ sizeLine then some (.str (cutS x lo hi)) else none
  | _, _, _ => none
def pno : Rho → Res (Option Int) := fun _ => .ok none
def intO : D → Res (Option Int)
  | .int i => .ok (some i)
  | _ => .bad
def psm (f : Rho → Res D) : Rho → Res (Option Int) := fun ρ => (f ρ).bind intO
def slc (f : Rho → Res D) (g h : Rho → Res (Option Int)) : Rho → Res D := fun ρ => (f ρ).bind fun d => (g ρ).bind fun lo => (h ρ).bind fun hi => ofO (slD d lo hi)
section
variable {X : Cx} {T : List (Addr × Str)} {W : WX}
theorem e_tup {es : List Expr} {x1} {pos : Pos} {f : Rho → Res (List D)} (h : DA X T W es f) : DE X T W (.Tuple es x1 pos) (mkT f) :=
  (pe_tup h).to fun σ H Q ⟨ρ, F, a, h⟩ => by
    refine ⟨ρ, F, a, (aft.bind (R := RpAll X.K) h).imp fun d _ v F1 H1 _ _ q => ?_⟩
    obtain ⟨ds, F2, _, n, rv, q⟩ := q
    have q : aft (Rp X.K) X.K T W σ F2 H1 Q (if ds.length ≤ sizeLine then .ok (.tup ds) else .bad) := q
    split at q
    · rename_i hl
      exact ⟨by rw [rv.length]; exact hl, fun p hp => q _ _ _ (Nx.push n.z hp ntT) (rp_tup n.z hp rv)⟩
    · exact q.elim
theorem e_lst {es : List Expr} {pos : Pos} {f : Rho → Res (List D)} (h : DA X T W es f) : DE X T W (.List es pos) (mkL f) :=
  (pe_lst h).to fun σ H Q ⟨ρ, F, a, h⟩ => by
    refine ⟨ρ, F, a, (aft.bind (R := RpAll X.K) h).imp fun d _ v F1 H1 _ _ q => ?_⟩
    obtain ⟨ds, F2, _, n, rv, q⟩ := q
    have q : aft (Rp X.K) X.K T W σ F2 H1 Q (if ds.length ≤ sizeLine then .ok (.lst ds) else .bad) := q
    split at q
    · rename_i hl
      exact ⟨by rw [rv.length]; exact hl, fun p hp => q _ _ _ (Nx.push n.z hp ntL) (rp_lst n.z hp rv)⟩
    · exact q.elim
theorem atI_get {K : PySem.W.Frag} {F : Hp} {xs : List V} {ds : List D} {i : Int} {d : D} (r : RpAll K F xs ds) (h : atI ds i = some d) : ∃ v, atI xs i = some v ∧ Rp K F v d := by
  unfold atI at h ⊢
  rw [r.length]
  cases e : ixN ds.length i with
  | none => rw [e] at h; cases h
  | some j =>
    rw [e] at h
    exact r.get h
theorem atI_int {ns : List Int} {i : Int} {z : D} (h : (atI ns i).map D.int = some z) : ∃ n, atI (ns.map V.int) i = some (.int n) ∧ z = .int n := by
  unfold atI at h ⊢
  rw [List.length_map]
  cases e : ixN ns.length i with
  | none => rw [e] at h; cases h
  | some j =>
    rw [e] at h
    have h : (ns[j]?).map D.int = some z := h
    show ∃ n, (ns.map V.int)[j]? = some (.int n) ∧ z = .int n
    rw [List.getElem?_map]
    cases q : ns[j]? with
    | none => rw [q] at h; cases h
    | some n =>
      rw [q] at h
      cases h
      exact ⟨n, rfl, rfl⟩
theorem x_ix : IxR X (rD2 X.K T ixD) := by
  intro value slice pins s σ H x y v u Q I rx ry h hs
  obtain ⟨F, d, e, z, hz, rd, re, hG, q⟩ := h
  cases rd with
  | tup h1 r1 =>
    cases re with
    | int i =>
      obtain ⟨w, hw, rw'⟩ := atI_get r1 hG
      exact ix_tup value slice pins s σ H _ _ v u Q I rx ry ⟨_, _, i, w, rfl, rfl, hz.sub.st h1, hw, done0 hz q rw'⟩ hs
    | _ => cases hG
  | lst h1 r1 =>
    cases re with
    | int i =>
      obtain ⟨w, hw, rw'⟩ := atI_get r1 hG
      exact ix_list value slice pins s σ H _ _ v u Q I rx ry ⟨_, _, i, w, rfl, rfl, SqL.of (hz.sub _ _ h1), hw, done0 hz q rw'⟩ hs
    | _ => cases hG
  | arr h1 =>
    cases re with
    | int i =>
      obtain ⟨n, hn, rfl⟩ := atI_int hG
      exact ix_list value slice pins s σ H _ _ v u Q I rx ry ⟨_, _, i, .int n, rfl, rfl, hz.sub.sl h1, hn, done0 hz q (.int n)⟩ hs
    | _ => cases hG
  | str x =>
    cases re with
    | int i =>
      have hG : (if x.length ≤ sizeLine then (atI x.cps.toList i).map fun c => D.str ⟨#[c]⟩ else none) = some z := hG
      split at hG
      · rename_i hl
        cases e : atI x.cps.toList i with
        | none => rw [e] at hG; cases hG
        | some c =>
          rw [e] at hG
          cases hG
          exact ix_str value slice pins s σ H _ _ v u Q I rx ry ⟨x, i, c, rfl, rfl, hl, e, done0 hz q (.str _)⟩ hs
      · cases hG
    | _ => cases hG
  | _ => cases hG
theorem e_ix {a b : Expr} {f g : Rho → Res D} {pos : Pos} (ha : DE X T W a f) (hb : DE X T W b g) (hs : PlainIx b := by exact fun _ _ => rfl) : DE X T W (.Subscript a b pos) (bop ixD f g) :=
  (pe_ix x_ix ha hb hs).to fun _ _ _ h => bin_to h
theorem _root_.L2.PO.to {X : Cx} {e : Option Expr} {t u : TO} (h : PO X e t) (k : ∀ σ H Q, u σ H Q → t σ H Q) : PO X e u := ⟨fun pins s σ H Q I q => h.run pins s σ H Q I (k σ H Q q)⟩
theorem RpAll.cut {K : PySem.W.Frag} {F : Hp} {xs : List V} {ds : List D} (r : RpAll K F xs ds) (lo hi : Option Int) : RpAll K F (cutV xs lo hi) (cutD ds lo hi) := by
  unfold cutV cutD
  rw [r.length]
  exact (r.drop _).take _
end

/-! ### calls of built-ins -/
section
variable {X : Cx} {T : List (Addr × Str)} {W : WX}
theorem cal_to {K : PySem.W.Frag} {G : List D → Option D} {f : Rho → Res (List D)} {σ : L2.St} {H : Hp} {Q : VK} (h : tE K T W (cal G f) σ H Q) : tCB (rDn K T G) (tA K T W f) σ H Q := by
  obtain ⟨ρ, F, a, h⟩ := h
  refine ⟨ρ, F, a, (aft.bind (R := RpAll K) h).imp fun d _ v F1 H1 _ _ q => ?_⟩
  obtain ⟨b, F2, _, n, rv, q⟩ := q
  obtain ⟨z, hz, q⟩ := ofO_ok q
  exact ⟨F2, b, z, n.z, rv, hz, q⟩
theorem e_callB {id : String} {x : Str} {G : List D → Option D} {e : Expr} {es : List Expr} {p pos : Pos} {f : Rho → Res (List D)} (hc : CallR X (.builtin id) (rDn X.K T G)) (hg : Gl X x) (hm : X.mg x = none) (hv : bootBuiltins x = some (.builtin id)) (ha : DA X T W (e :: es) f)
    (hn : x ≠ "__name__" := by decide) (hdb : (x == ("__debug__" : Str)) = false := by decide) (hpl : starEach (e :: es) X.env = (false, eval e X.env) :: starEach es X.env := by rfl) (hpl2 : (backTo pos (starEach es X.env)).any (·.1) = false := by rfl) : DE X T W (.Call (.Name x p) (e :: es) [] pos) (cal G f) :=
  (pe_callB hc hg hm hv ha hn hdb hpl hpl2).to fun _ _ _ h => cal_to h
theorem e_callTy {T' : String} {x : Str} {G : List D → Option D} {e : Expr} {es : List Expr} {p pos : Pos} {f : Rho → Res (List D)} (hc : CallR X (.type T') (rDn X.K T G)) (hg : Gl X x) (hm : X.mg x = none) (hv : bootBuiltins x = some (.type T')) (ha : DA X T W (e :: es) f)
    (hn : x ≠ "__name__" := by decide) (hdb : (x == ("__debug__" : Str)) = false := by decide) (hpl : starEach (e :: es) X.env = (false, eval e X.env) :: starEach es X.env := by rfl) (hpl2 : (backTo pos (starEach es X.env)).any (·.1) = false := by rfl) : DE X T W (.Call (.Name x p) (e :: es) [] pos) (cal G f) :=
  (pe_callTy hc hg hm hv ha hn hdb hpl hpl2).to fun _ _ _ h => cal_to h
end
def lenD : List D → Option D
  | [.str x] => if x.length ≤ sizeLine then some (.int x.length) else none
  | [.tup xs] => some (.int xs.length)
  | [.lst xs] => some (.int xs.length)
  | [.arr ns] => some (.int ns.length)
  | _ => none
def absD : List D → Option D
  | [.int i] => some (.int (if i < 0 then -i else i))
  | _ => none
def maxD : List D → Option D
  | [.int i, .int j] => some (.int (if j > i then j else i))
  | _ => none
def minD : List D → Option D
  | [.int i, .int j] => some (.int (if j < i then j else i))
  | _ => none
def intD : List D → Option D
  | [.int i] => some (.int i)
  | [.bl k] => some (.int (if k then 1 else 0))
  | [.str x] => if x.length ≤ 640 then (PySem.intText? x).map .int else none
  | _ => none
def strD : List D → Option D
  | [.int i] => if i.natAbs.log2 < 1920 then some (.str (toString i)) else none
  | _ => none
def tyD : D → Option String
  | .non => some "NoneType"
  | .bl _ => some "bool"
  | .int _ => some "int"
  | .str _ => some "str"
  | .lst _ => some "list"
  | .tup _ => some "tuple"
  | _ => none
def isiD : List D → Option D
  | [d, .ty n] => (tyD d).bind fun t => (kitB t n).map .bl
  | _ => none
section
variable {X : Cx} {T : List (Addr × Str)} {W : WX}
theorem all1 {K : PySem.W.Frag} {F : Hp} {xs : List V} {d : D} (r : RpAll K F xs [d]) : ∃ v, xs = [v] ∧ Rp K F v d := by
  cases r with
  | cons h t => cases t; exact ⟨_, rfl, h⟩
theorem all2 {K : PySem.W.Frag} {F : Hp} {xs : List V} {d e : D} (r : RpAll K F xs [d, e]) : ∃ v w, xs = [v, w] ∧ Rp K F v d ∧ Rp K F w e := by
  cases r with
  | cons h t =>
    obtain ⟨w, rfl, h2⟩ := all1 t
    exact ⟨_, w, rfl, h, h2⟩
theorem c_len : CallR X (.builtin "len") (rDn X.K T lenD) := by
  intro pins s σ H xs us Q I r h
  obtain ⟨F, ds, z, hz, rs, hG, q⟩ := h
  unfold lenD at hG
  split at hG
  · rename_i x
    obtain ⟨v, rfl, rv⟩ := all1 rs
    cases rv
    split at hG
    · rename_i hl
      cases hG
      exact call_len_str pins s σ H _ us Q I r ⟨x, rfl, hl, done0 hz q (.int _)⟩
    · cases hG
  · obtain ⟨v, rfl, rv⟩ := all1 rs
    cases hG
    cases rv with
    | tup h1 r1 => exact call_len_seq pins s σ H _ us Q I r ⟨_, _, rfl, .inr (hz.sub.st h1), by rw [r1.length]; exact done0 hz q (.int _)⟩
  · obtain ⟨v, rfl, rv⟩ := all1 rs
    cases hG
    cases rv with
    | lst h1 r1 => exact call_len_seq pins s σ H _ us Q I r ⟨_, _, rfl, .inl (SqL.of (hz.sub _ _ h1)), by rw [r1.length]; exact done0 hz q (.int _)⟩
  · obtain ⟨v, rfl, rv⟩ := all1 rs
    cases hG
    cases rv with
    | arr h1 => exact call_len_seq pins s σ H _ us Q I r ⟨_, _, rfl, .inl (hz.sub.sl h1), by rw [List.length_map]; exact done0 hz q (.int _)⟩
  · cases hG
theorem c_abs : CallR X (.builtin "abs") (rDn X.K T absD) := by
  intro pins s σ H xs us Q I r h
  obtain ⟨F, ds, z, hz, rs, hG, q⟩ := h
  unfold absD at hG
  split at hG
  · obtain ⟨v, rfl, rv⟩ := all1 rs
    cases rv
    cases hG
    exact call_abs pins s σ H _ us Q I r ⟨_, rfl, done0 hz q (.int _)⟩
  · cases hG
theorem c_max (hc : X.calm = true) : CallR X (.builtin "max") (rDn X.K T maxD) := by
  intro pins s σ H xs us Q I r h
  obtain ⟨F, ds, z, hz, rs, hG, q⟩ := h
  unfold maxD at hG
  split at hG
  · obtain ⟨v, w, rfl, rv, rw'⟩ := all2 rs
    cases rv
    cases rw'
    cases hG
    exact call_max2 hc pins s σ H _ us Q I r ⟨_, _, rfl, done0 hz q (.int _)⟩
  · cases hG
theorem c_int : CallR X (.type "int") (rDn X.K T intD) := by
  intro pins s σ H xs us Q I r h
  obtain ⟨F, ds, z, hz, rs, hG, q⟩ := h
  unfold intD at hG
  split at hG
  · obtain ⟨v, rfl, rv⟩ := all1 rs
    cases rv
    cases hG
    exact call_int1 pins s σ H _ us Q I r (.inl ⟨_, rfl, done0 hz q (.int _)⟩)
  · obtain ⟨v, rfl, rv⟩ := all1 rs
    cases rv
    cases hG
    exact call_int1 pins s σ H _ us Q I r (.inr ⟨_, rfl, done0 hz q (.int _)⟩)
  · rename_i x
    obtain ⟨v, rfl, rv⟩ := all1 rs
    cases rv
    split at hG
    · rename_i hl
      cases e : PySem.intText? x with
      | none => rw [e] at hG; cases hG
      | some n =>
        rw [e] at hG
        cases hG
        exact call_int_str pins s σ H _ us Q I r ⟨x, n, rfl, e, hl, done0 hz q (.int _)⟩
    · cases hG
  · cases hG
theorem c_str : CallR X (.type "str") (rDn X.K T strD) := by
  intro pins s σ H xs us Q I r h
  obtain ⟨F, ds, z, hz, rs, hG, q⟩ := h
  unfold strD at hG
  split at hG
  · obtain ⟨v, rfl, rv⟩ := all1 rs
    cases rv
    split at hG
    · rename_i hl
      cases hG
      exact call_str_int pins s σ H _ us Q I r ⟨_, rfl, hl, done0 hz q (.str _)⟩
    · cases hG
  · cases hG
theorem ty_of {K : PySem.W.Frag} {F H : Hp} {v : V} {d : D} {t : String} (hz : Fz F H) (r : Rp K F v d) (h : tyD d = some t) : TyX K H v (.type t) := by
  cases r with
  | non => cases h; exact .base .non
  | bl b => cases h; exact .base (.bl b)
  | int i => cases h; exact .base (.int i)
  | str x => cases h; exact .base (.str x)
  | lst h1 _ => cases h; exact .base (.lst (hz.sub _ _ h1))
  | tup h1 _ =>
    cases h
    rcases h1 with (h1 | ⟨o, h1⟩) | ⟨o, its, n, hk, hc, _⟩
    · exact .base (.tup (hz.sub _ _ h1))
    · exact .fTuple (hz.sub _ _ h1)
    · exact .kTuple hk hc
  | _ => cases h
theorem c_isi : CallR X (.builtin "isinstance") (rDn X.K T isiD) := by
  intro pins s σ H xs us Q I r h
  obtain ⟨F, ds, z, hz, rs, hG, q⟩ := h
  unfold isiD at hG
  split at hG
  · rename_i d n
    obtain ⟨v, w, rfl, rv, rw'⟩ := all2 rs
    cases rw'
    cases e : tyD d with
    | none => rw [e] at hG; cases hG
    | some t =>
      rw [e] at hG
      have hG : (kitB t n).map D.bl = some z := hG
      cases e2 : kitB t n with
      | none => rw [e2] at hG; cases hG
      | some b =>
        rw [e2] at hG
        cases hG
        exact call_isi pins s σ H _ us Q I r ⟨v, _, _, _, b, rfl, .ty n, ty_of hz rv e, kit_ty e2, done0 hz q (.bl b)⟩
  · cases hG
end
end DN
namespace DN
open PySem PySem.Spec PyProof.Rows L2
open LamX (Tabs ExtN)

/-! ### == and != of data -/
def flatD : D → Bool
  | .non => true
  | .bl _ => true
  | .int _ => true
  | .str _ => true
  | _ => false
mutual
def eqd : D → D → Bool
  | .non, .non => true
  | .bl a, .bl b => a == b
  | .bl a, .int j => (if a then 1 else 0) == j
  | .int i, .bl b => i == (if b then 1 else 0)
  | .int i, .int j => i == j
  | .str x, .str y => x == y
  | .lst xs, .lst ys => eqds xs ys
  | .tup xs, .tup ys => eqds xs ys
  | _, _ => false
def eqds : List D → List D → Bool
  | [], [] => true
  | x :: xs, y :: ys => eqd x y && eqds xs ys
  | _, _ => false
end
mutual
/-- plain data that is no deeper than n -/
def plain : Nat → D → Bool
  | _, .non => true
  | _, .bl _ => true
  | _, .int _ => true
  | _, .str x => PyData.strOk x
  | n + 1, .lst xs => plains n xs
  | n + 1, .tup xs => plains n xs
  | _, _ => false
def plains : Nat → List D → Bool
  | _, [] => true
  | n, x :: xs => plain n x && plains n xs
end
mutual
def pyO : D → PyData
  | .non => .none
  | .bl b => .bool b
  | .int i => .int i
  | .str x => .str x
  | .lst xs => .list (pyA xs)
  | .tup xs => .tuple (pyA xs)
  | _ => .none
def pyA : List D → List PyData
  | [] => []
  | x :: xs => pyO x :: pyA xs
end
mutual
theorem plain_py {K : PySem.W.Frag} {H : Hp} : ∀ (n : Nat) (d : D) (v : V), plain n d = true → Rp K H v d → Dp K H v (pyO d) ∧ (pyO d).canLay0 = true ∧ (pyO d).depth ≤ n
  | n, .non, _, _, .non => by
    unfold pyO
    exact ⟨.non, by simp [PyData.canLay0], by simp [PyData.depth]⟩
  | n, .bl b, _, _, .bl _ => by
    unfold pyO
    exact ⟨.bl b, by simp [PyData.canLay0], by simp [PyData.depth]⟩
  | n, .int b, _, _, .int _ => by
    unfold pyO
    exact ⟨.int b, by simp [PyData.canLay0], by simp [PyData.depth]⟩
  | n, .str b, _, h, .str _ => by
    unfold plain at h
    unfold pyO
    exact ⟨.str b, by simpa [PyData.canLay0] using h, by simp [PyData.depth]⟩
  | n + 1, .lst xs, _, h, .lst h1 r => by
    unfold plain at h
    obtain ⟨a, b, c⟩ := plains_py n xs _ h r
    unfold pyO
    exact ⟨.lst (SqL.of h1) a, by simpa [PyData.canLay0] using b, by simp only [PyData.depth]; omega⟩
  | n + 1, .tup xs, _, h, .tup h1 r => by
    unfold plain at h
    obtain ⟨a, b, c⟩ := plains_py n xs _ h r
    unfold pyO
    exact ⟨.tup h1 a, by simpa [PyData.canLay0] using b, by simp only [PyData.depth]; omega⟩
  | 0, .lst xs, _, h, _ => by simp [plain] at h
  | 0, .tup xs, _, h, _ => by simp [plain] at h
  | _, .fn _, _, h, _ => by simp [plain] at h
  | _, .ty _, _, h, _ => by simp [plain] at h
  | _, .dK _, _, h, _ => by simp [plain] at h
  | _, .dT _, _, h, _ => by simp [plain] at h
  | _, .arr _, _, h, _ => by simp [plain] at h
  | _, .pro _, _, h, _ => by simp [plain] at h
  | _, .dic _ _ _ _, _, h, _ => by simp [plain] at h
  | _, .adr _, _, h, _ => by simp [plain] at h
  | _, .ins _ _ _, _, h, _ => by simp [plain] at h
  | _, .tab _ _ _, _, h, _ => by simp [plain] at h
theorem plains_py {K : PySem.W.Frag} {H : Hp} : ∀ (n : Nat) (ds : List D) (vs : List V), plains n ds = true → RpAll K H vs ds → DpAll K H vs (pyA ds) ∧ PyData.canLayAll0 (pyA ds) = true ∧ PyData.depthAll (pyA ds) ≤ n
  | n, [], _, _, .nil => by
    unfold pyA
    exact ⟨.nil, by simp [PyData.canLayAll0], by simp [PyData.depthAll]⟩
  | n, d :: ds, _, h, .cons r t => by
    unfold plains at h
    rw [Bool.and_eq_true] at h
    obtain ⟨a, b, c⟩ := plain_py n d _ h.1 r
    obtain ⟨a2, b2, c2⟩ := plains_py n ds _ h.2 t
    unfold pyA
    exact ⟨.cons a a2, by simp [PyData.canLayAll0, b, b2], by simp only [PyData.depthAll]; omega⟩
end
mutual
theorem eqd_py : ∀ (n m : Nat) (d e : D), plain n d = true → plain m e = true → PyData.eqv (pyO d) (pyO e) = eqd d e
  | n, m, d, e, hd, he => by
    cases d <;> cases e <;> first
      | (simp only [pyO, PyData.eqv, eqd]; done)
      | (cases n <;> simp [plain] at hd; done)
      | (cases m <;> simp [plain] at he; done)
      | (cases n with
         | zero => simp [plain] at hd
         | succ n =>
           cases m with
           | zero => simp [plain] at he
           | succ m =>
             unfold plain at hd he
             simp only [pyO, PyData.eqv, eqd]
             exact eqds_py n m _ _ hd he)
theorem eqds_py : ∀ (n m : Nat) (d e : List D), plains n d = true → plains m e = true → PyData.eqvAll (pyA d) (pyA e) = eqds d e
  | n, m, [], [], _, _ => by simp [pyA, PyData.eqvAll, eqds]
  | n, m, [], _ :: _, _, _ => by simp [pyA, PyData.eqvAll, eqds]
  | n, m, _ :: _, [], _, _ => by simp [pyA, PyData.eqvAll, eqds]
  | n, m, x :: xs, y :: ys, hd, he => by
    unfold plains at hd he
    rw [Bool.and_eq_true] at hd he
    simp only [pyA, PyData.eqvAll, eqds]
    rw [eqd_py n m x y hd.1 he.1, eqds_py n m xs ys hd.2 he.2]
end
def eqOk (d e : D) : Bool := (flatD d && flatD e) || (plain 64 d && plain 64 e)
def eqD (d e : D) : Option D := if eqOk d e = true then some (.bl (eqd d e)) else none
def neD (d e : D) : Option D := if eqOk d e = true then some (.bl (!eqd d e)) else none
section
variable {X : Cx} {T : List (Addr × Str)} {W : WX}
/-- either two scalars that == tells apart, or plain data -/
theorem eq_cases {K : PySem.W.Frag} {F H : Hp} {x y : V} {d e : D} (hz : Fz F H) (rd : Rp K F x d) (re : Rp K F y e) (h : eqOk d e = true) :
    (scal x y = true ∧ decide (x = y) = eqd d e) ∨ (∃ a b, Dp K H x a ∧ Dp K H y b ∧ SeqAt.shaped a = true ∧ SeqAt.shaped b = true ∧ PyData.eqv a b = eqd d e) := by
  have deep : plain 64 d = true → plain 64 e = true → ∃ a b, Dp K H x a ∧ Dp K H y b ∧ SeqAt.shaped a = true ∧ SeqAt.shaped b = true ∧ PyData.eqv a b = eqd d e := fun hd he => by
    obtain ⟨a1, a2, a3⟩ := plain_py 64 d x hd (rd.mono hz.sub)
    obtain ⟨b1, b2, b3⟩ := plain_py 64 e y he (re.mono hz.sub)
    refine ⟨_, _, a1, b1, ?_, ?_, eqd_py 64 64 d e hd he⟩
    · unfold SeqAt.shaped
      rw [a2, decide_eq_true a3] <;> rfl
    · unfold SeqAt.shaped
      rw [b2, decide_eq_true b3] <;> rfl
  unfold eqOk at h
  rw [Bool.or_eq_true, Bool.and_eq_true, Bool.and_eq_true] at h
  rcases h with ⟨h1, h2⟩ | ⟨h1, h2⟩
  · cases rd <;> cases re <;> first
      | (cases h1; done)
      | (cases h2; done)
      | (refine .inr (deep ?_ ?_) <;> simp [plain] <;> done)
      | (refine .inl ⟨rfl, ?_⟩; simp only [eqd]; first | exact dec_str | (simp; done))
  · exact .inr (deep h1 h2)
theorem o_eq (hu : X.A.units + 64 < cLine) : OpR X (compareOp .Eq) (rD2 X.K T eqD) := by
  intro pins s σ H x y v u Q I rx ry h
  obtain ⟨F, d, e, z, hz, rd, re, hG, q⟩ := h
  unfold eqD at hG
  split at hG
  · rename_i hk
    cases hG
    rcases eq_cases hz rd re hk with ⟨h1, h2⟩ | ⟨a, b, h1, h2, h3, h4, h5⟩
    · exact op_eq pins s σ H x y v u Q I rx ry ⟨h1, by rw [h2]; exact done0 hz q (.bl _)⟩
    · exact op_eqD hu pins s σ H x y v u Q I rx ry ⟨a, b, h1, h2, h3, h4, by rw [h5]; exact done0 hz q (.bl _)⟩
  · cases hG
theorem o_ne (hu : X.A.units + 64 < cLine) : OpR X (compareOp .NotEq) (rD2 X.K T neD) := by
  intro pins s σ H x y v u Q I rx ry h
  obtain ⟨F, d, e, z, hz, rd, re, hG, q⟩ := h
  unfold neD at hG
  split at hG
  · rename_i hk
    cases hG
    rcases eq_cases hz rd re hk with ⟨h1, h2⟩ | ⟨a, b, h1, h2, h3, h4, h5⟩
    · exact op_ne pins s σ H x y v u Q I rx ry ⟨h1, by rw [h2]; exact done0 hz q (.bl _)⟩
    · exact op_neD hu pins s σ H x y v u Q I rx ry ⟨a, b, h1, h2, h3, h4, by rw [h5]; exact done0 hz q (.bl _)⟩
  · cases hG
end

/-! ### in, not in -/
def hasS (x y : Str) : Bool := if x.cps.size = 1 then decide (x.cps.getD 0 0 ∈ y.cps.toList) else !(Builtin.Str.occurrences y x 0 y.length 1).isEmpty
def inL (d : D) (xs : List D) : Option Bool := if (flatD d && xs.all flatD) = true then some (xs.any fun y => eqd y d) else if (plain 60 d && plains 60 xs) = true then some (xs.any fun y => eqd y d) else none
def inB : D → D → Option Bool
  | .str x, .str y => some (hasS x y)
  | d, .tup xs => inL d xs
  | d, .lst xs => inL d xs
  | _, _ => none
def inD (d e : D) : Option D := (inB d e).map .bl
def niD (d e : D) : Option D := (inB d e).map fun b => .bl (!b)
section
variable {X : Cx} {T : List (Addr × Str)} {W : WX}
theorem flat_rp {K : PySem.W.Frag} {F : Hp} {v : V} {d : D} (r : Rp K F v d) (h : flatD d = true) : flatV v = true := by
  cases r <;> first | rfl | cases h
theorem flat_all {K : PySem.W.Frag} {F : Hp} : ∀ {vs : List V} {ds : List D}, RpAll K F vs ds → ds.all flatD = true → vs.all flatV = true
  | _, _, .nil, _ => rfl
  | _, _, .cons r t, h => by
    rw [List.all_cons, Bool.and_eq_true] at h
    rw [List.all_cons, flat_rp r h.1, flat_all t h.2] <;> rfl
theorem eqV_eqd {K : PySem.W.Frag} {F : Hp} {v w : V} {d e : D} (r : Rp K F v d) (q : Rp K F w e) (h : flatD d = true) (h2 : flatD e = true) : eqV v w = eqd d e := by
  cases r <;> first
    | (cases h; done)
    | (cases q <;> first | (cases h2; done) | (simp [eqV, eqd]; done))
theorem inV_eq {K : PySem.W.Frag} {F : Hp} {w : V} {e : D} (q : Rp K F w e) (h2 : flatD e = true) : ∀ {vs : List V} {ds : List D}, RpAll K F vs ds → ds.all flatD = true → inV w vs = ds.any fun y => eqd y e
  | _, _, .nil, _ => rfl
  | v :: vs, d :: ds, .cons r t, h => by
    rw [List.all_cons, Bool.and_eq_true] at h
    have ih := inV_eq q h2 t h.2
    unfold inV at ih ⊢
    rw [List.any_cons, List.any_cons, ih, eqV_eqd r q h.1 h2]
theorem one_of {x : Str} (h : x.cps.size = 1) : x = ⟨#[x.cps.getD 0 0]⟩ := by
  obtain ⟨cps⟩ := x
  simp only at h ⊢
  congr 1
  apply Array.ext
  · simp [h]
  · intro i h1 h2
    have : i = 0 := by omega
    subst this
    simp [Array.getD, h]
theorem any_py (d : D) (hd : plain 60 d = true) : ∀ ds : List D, plains 60 ds = true → ((pyA ds).any fun z => PyData.eqv z (pyO d)) = ds.any fun y => eqd y d
  | [], _ => rfl
  | y :: ds, h => by
    have h : (plain 60 y && plains 60 ds) = true := h
    rw [Bool.and_eq_true] at h
    show (PyData.eqv (pyO y) (pyO d) || (pyA ds).any fun z => PyData.eqv z (pyO d)) = _
    rw [eqd_py 60 60 y d h.1 hd, any_py d hd ds h.2]
    rfl
theorem in_deep {pins : List (Addr × Obj)} {s : Shared} {σ : L2.St} {H F : Hp} {x : V} {v u : Value} {a : Addr} {xs : List V} {d : D} {ds : List D} {Q : VK} (hu : X.A.units + 64 < cLine) (I : Inv X pins σ H s) (hz : Fz F H) (rx : RelV x v) (ry : RelV (.ref a) u) (rd : Rp X.K F x d) (hs : SqT X.K F a xs ∨ F a = some (.lst xs)) (r1 : RpAll X.K F xs ds) (hd : plain 60 d = true) (hds : plains 60 ds = true) :
    (Q (.bl (ds.any fun y => eqd y d)) H → wpAny (model X.prog X.w) X.A (compareOp .In v u) (EP X pins σ Q) X.xe s) ∧ (Q (.bl (!ds.any fun y => eqd y d)) H → wpAny (model X.prog X.w) X.A (compareOp .NotIn v u) (EP X pins σ Q) X.xe s) := by
  obtain ⟨a1, a2, a3⟩ := plain_py 60 d x hd (rd.mono hz.sub)
  obtain ⟨b1, b2, b3⟩ := plains_py 60 ds xs hds (r1.mono hz.sub)
  obtain ⟨as, q1⟩ := Dp.reads I _ x v a1 rx
  have room : X.A.units + 1 + min (PyData.depthAll (pyA ds)) (pyO d).depth < cLine := by omega
  rw [← any_py d hd ds hds]
  rcases hs with hs | hs
  · have c1 : Dp X.K H (.ref a) (.tuple (pyA ds)) := Dp.tup (hz.sub.st hs) b1
    obtain ⟨bs, q2⟩ := Dp.reads I _ (.ref a) u c1 ry
    exact ⟨fun q => SeqAt.in_tuple_reads q2 q1 b2 a2 room ⟨.bl _, H, I, rfl, q⟩, fun q => SeqAt.notIn_tuple_reads q2 q1 b2 a2 room ⟨.bl _, H, I, rfl, q⟩⟩
  · have c1 : Dp X.K H (.ref a) (.list (pyA ds)) := Dp.lst (SqL.of (hz.sub _ _ hs)) b1
    obtain ⟨bs, q2⟩ := Dp.reads I _ (.ref a) u c1 ry
    exact ⟨fun q => SeqAt.in_list_reads q2 q1 b2 a2 room ⟨.bl _, H, I, rfl, q⟩, fun q => SeqAt.notIn_list_reads q2 q1 b2 a2 room ⟨.bl _, H, I, rfl, q⟩⟩
theorem o_in (hu : X.A.units + 64 < cLine) : OpR X (compareOp .In) (rD2 X.K T inD) := by
  intro pins s σ H x y v u Q I rx ry h
  obtain ⟨F, d, e, z, hz, rd, re, hG, q⟩ := h
  unfold inD at hG
  cases hb : inB d e with
  | none => rw [hb] at hG; cases hG
  | some b =>
    rw [hb] at hG
    cases hG
    cases re with
    | str y =>
      cases rd with
      | str x =>
        have hb : some (hasS x y) = some b := hb
        unfold hasS at hb
        split at hb
        · rename_i h1
          cases hb
          exact op_in_sign pins s σ H _ _ v u Q I rx ry ⟨x.cps.getD 0 0, y, congrArg V.str (one_of h1), rfl, done0 hz q (.bl _)⟩
        · cases hb
          exact op_in_str pins s σ H _ _ v u Q I rx ry ⟨x, y, rfl, rfl, done0 hz q (.bl _)⟩
      | _ => cases hb
    | tup h1 r1 =>
      rename_i a xs ds
      have hb : inL d ds = some b := by
        cases d <;> exact hb
      unfold inL at hb
      split at hb
      · rename_i hf
        rw [Bool.and_eq_true] at hf
        cases hb
        refine op_in_seq pins s σ H _ _ v u Q I rx ry ⟨a, xs, rfl, .inr (hz.sub.st h1), flat_rp rd hf.1, flat_all r1 hf.2, ?_⟩
        rw [inV_eq rd hf.1 r1 hf.2]
        exact done0 hz q (.bl _)
      · split at hb
        · rename_i hf
          rw [Bool.and_eq_true] at hf
          cases hb
          exact (in_deep hu I hz rx ry rd (.inl h1) r1 hf.1 hf.2).1 (done0 hz q (.bl _))
        · cases hb
    | lst h1 r1 =>
      rename_i a xs ds
      have hb : inL d ds = some b := by
        cases d <;> exact hb
      unfold inL at hb
      split at hb
      · rename_i hf
        rw [Bool.and_eq_true] at hf
        cases hb
        refine op_in_seq pins s σ H _ _ v u Q I rx ry ⟨a, xs, rfl, .inl (SqL.of (hz.sub _ _ h1)), flat_rp rd hf.1, flat_all r1 hf.2, ?_⟩
        rw [inV_eq rd hf.1 r1 hf.2]
        exact done0 hz q (.bl _)
      · split at hb
        · rename_i hf
          rw [Bool.and_eq_true] at hf
          cases hb
          exact (in_deep hu I hz rx ry rd (.inr h1) r1 hf.1 hf.2).1 (done0 hz q (.bl _))
        · cases hb
    | _ => cases rd <;> cases hb
theorem o_ni (hu : X.A.units + 64 < cLine) : OpR X (compareOp .NotIn) (rD2 X.K T niD) := by
  intro pins s σ H x y v u Q I rx ry h
  obtain ⟨F, d, e, z, hz, rd, re, hG, q⟩ := h
  unfold niD at hG
  cases hb : inB d e with
  | none => rw [hb] at hG; cases hG
  | some b =>
    rw [hb] at hG
    cases hG
    cases re with
    | str y =>
      cases rd with
      | str x =>
        have hb : some (hasS x y) = some b := hb
        unfold hasS at hb
        split at hb
        · rename_i h1
          cases hb
          exact op_notIn_sign pins s σ H _ _ v u Q I rx ry ⟨x.cps.getD 0 0, y, congrArg V.str (one_of h1), rfl, done0 hz q (.bl _)⟩
        · cases hb
          exact op_notin_str pins s σ H _ _ v u Q I rx ry ⟨x, y, rfl, rfl, done0 hz q (.bl _)⟩
      | _ => cases hb
    | tup h1 r1 =>
      rename_i a xs ds
      have hb : inL d ds = some b := by
        cases d <;> exact hb
      unfold inL at hb
      split at hb
      · rename_i hf
        rw [Bool.and_eq_true] at hf
        cases hb
        refine op_notIn_seq pins s σ H _ _ v u Q I rx ry ⟨a, xs, rfl, .inr (hz.sub.st h1), flat_rp rd hf.1, flat_all r1 hf.2, ?_⟩
        rw [inV_eq rd hf.1 r1 hf.2]
        exact done0 hz q (.bl _)
      · split at hb
        · rename_i hf
          rw [Bool.and_eq_true] at hf
          cases hb
          exact (in_deep hu I hz rx ry rd (.inl h1) r1 hf.1 hf.2).2 (done0 hz q (.bl _))
        · cases hb
    | lst h1 r1 =>
      rename_i a xs ds
      have hb : inL d ds = some b := by
        cases d <;> exact hb
      unfold inL at hb
      split at hb
      · rename_i hf
        rw [Bool.and_eq_true] at hf
        cases hb
        refine op_notIn_seq pins s σ H _ _ v u Q I rx ry ⟨a, xs, rfl, .inl (SqL.of (hz.sub _ _ h1)), flat_rp rd hf.1, flat_all r1 hf.2, ?_⟩
        rw [inV_eq rd hf.1 r1 hf.2]
        exact done0 hz q (.bl _)
      · split at hb
        · rename_i hf
          rw [Bool.and_eq_true] at hf
          cases hb
          exact (in_deep hu I hz rx ry rd (.inr h1) r1 hf.1 hf.2).2 (done0 hz q (.bl _))
        · cases hb
    | _ => cases rd <;> cases hb
end
end DN
namespace DN
open PySem PySem.Spec PyProof.Rows L2
open LamX (Tabs ExtN)

/-! ### statements -/
inductive SR where
  | nx (ρ : Rho) | rt (d : D) | bk (ρ : Rho) | ct (ρ : Rho) | ex (n : Str) (ρ : Rho) | bad
def bindS {α : Type} (r : Res α) (ρ : Rho) (k : α → SR) : SR := match r with
  | .ok a => k a
  | .ex n => .ex n ρ
  | .bad => .bad
/-- the frame's own objects are new since the entry -/
def Ow (H0 : Hp) (σ : L2.St) (ρ : Rho) : Prop := ∀ (i : Nat) (d : D) (p : Addr), ρ[i]? = some (En.o d) → σ[i]? = some (some (V.ref p)) → ∀ o, H0 p = some o → ∃ ps, o = .tbl ps
structure Sg (K : PySem.W.Frag) (T : List (Addr × Str)) (F0 H0 F H : Hp) (σ : L2.St) (ρ : Rho) : Prop where
  at_ : At K T F H σ ρ
  nx : Nx T F0 H0 F H
  ow : Ow H0 σ ρ
def aftS (K : PySem.W.Frag) (T : List (Addr × Str)) (W : WX) (F0 H0 F : Hp) (Z : Ends) : SR → Prop
  | .nx ρ => ∀ σ F' H', Sg K T F0 H0 F' H' σ ρ → Sub F F' → Z.nx σ H'
  | .bk ρ => ∀ σ F' H', Sg K T F0 H0 F' H' σ ρ → Sub F F' → Z.bk σ H'
  | .ct ρ => ∀ σ F' H', Sg K T F0 H0 F' H' σ ρ → Sub F F' → Z.ct σ H'
  | .rt d => ∀ v F' H', Nx T F0 H0 F' H' → Rp K F' v d → Z.rt v H'
  | .ex n ρ => ∀ σ F' H', Sg K T F0 H0 F' H' σ ρ → Sub F F' → W (.ref (He.ga K n)) none σ H'
  | .bad => False
def tS (K : PySem.W.Frag) (T : List (Addr × Str)) (W : WX) (F0 H0 : Hp) (s : Rho → SR) : TS := fun Z σ H => ∃ ρ F, Sg K T F0 H0 F H σ ρ ∧ aftS K T W F0 H0 F Z (s ρ)
abbrev DS (X : Cx) (T : List (Addr × Str)) (W : WX) (F0 H0 : Hp) (st : Stmt) (s : Rho → SR) : Prop := PS X st (tS X.K T W F0 H0 s)
abbrev DSs (X : Cx) (T : List (Addr × Str)) (W : WX) (F0 H0 : Hp) (st : List Stmt) (s : Rho → SR) : Prop := PSs X st (tS X.K T W F0 H0 s)
section
variable {K : PySem.W.Frag} {T : List (Addr × Str)} {W : WX} {F0 H0 F H F1 H1 : Hp} {σ : L2.St} {ρ : Rho} {Z : Ends}
theorem Sg.step (g : Sg K T F0 H0 F H σ ρ) (n : Nx T F H F1 H1) : Sg K T F0 H0 F1 H1 σ ρ := ⟨g.at_.nx n, g.nx.trans n, g.ow⟩
theorem aftS.mono {r : SR} (e : Sub F F1) (h : aftS K T W F0 H0 F Z r) : aftS K T W F0 H0 F1 Z r := by
  cases r with
  | nx ρ => exact fun σ F' H' g s => h σ F' H' g (e.trans s)
  | bk ρ => exact fun σ F' H' g s => h σ F' H' g (e.trans s)
  | ct ρ => exact fun σ F' H' g s => h σ F' H' g (e.trans s)
  | ex n ρ => exact fun σ F' H' g s => h σ F' H' g (e.trans s)
  | rt d => exact h
  | bad => exact h
theorem aftS.bind {α β : Type} {R : Hp → α → β → Prop} {r : Res β} {k : β → SR} (g : Sg K T F0 H0 F H σ ρ) (h : aftS K T W F0 H0 F Z (bindS r ρ k)) :
    aft R K T W σ F H (fun a H1 => ∃ b F1, r = .ok b ∧ Nx T F H F1 H1 ∧ Sg K T F0 H0 F1 H1 σ ρ ∧ R F1 a b ∧ aftS K T W F0 H0 F1 Z (k b)) r := by
  cases r with
  | ok b => exact fun a F2 H2 n ra => ⟨b, F2, rfl, n, g.step n, ra, aftS.mono n.f h⟩
  | ex m => exact fun F' H' n => h σ F' H' (g.step n) n.f
  | bad => exact h
theorem Ow.set {i : Nat} {v : V} {d : D} (o : Ow H0 σ ρ) : Ow H0 (σ.set i (some v)) (ρ.set i (.z d)) := fun j e p h1 h2 => by
  rw [List.getElem?_set] at h1 h2
  by_cases hij : i = j
  · rw [if_pos hij] at h1
    split at h1 <;> cases h1
  · rw [if_neg hij] at h1 h2
    exact o j e p h1 h2
end
def sskip : Rho → SR := fun ρ => .nx ρ
def sseq (s t : Rho → SR) : Rho → SR := fun ρ => match s ρ with
  | .nx ρ' => t ρ'
  | r => r
def sret (f : Rho → Res D) : Rho → SR := fun ρ => bindS (f ρ) ρ .rt
def sif (c : Rho → Res Bool) (s t : Rho → SR) : Rho → SR := fun ρ => bindS (c ρ) ρ fun b => if b = true then s ρ else t ρ
/-- targets -/
abbrev Tg := Rho → D → Option Rho
abbrev Tgs := Rho → List D → Option Rho
def gn (i : Nat) : Tg := fun ρ d => some (ρ.set i (.z d))
def gsn : Tgs := fun ρ ds => match ds with
  | [] => some ρ
  | _ => none
def gsc (g : Tg) (h : Tgs) : Tgs := fun ρ ds => match ds with
  | d :: r => (g ρ d).bind fun ρ' => h ρ' r
  | [] => none
def gt (n : Nat) (h : Tgs) : Tg := fun ρ d => match d with
  | .tup ds => if ds.length = n then h ρ ds else none
  | .lst ds => if ds.length = n then h ρ ds else none
  | _ => none
def sasg (f : Rho → Res D) (g : Tg) : Rho → SR := fun ρ => bindS (f ρ) ρ fun d => match g ρ d with
  | some ρ' => .nx ρ'
  | none => .bad
def tGd (K : PySem.W.Frag) (T : List (Addr × Str)) (g : Tg) : TG := fun v σ H Q => ∃ ρ F d ρ', At K T F H σ ρ ∧ Rp K F v d ∧ g ρ d = some ρ' ∧ ∀ σ', At K T F H σ' ρ' → (∀ H0, Ow H0 σ ρ → Ow H0 σ' ρ') → Q σ' H
def tGs (K : PySem.W.Frag) (T : List (Addr × Str)) (g : Tgs) : TGs := fun vs σ H Q => ∃ ρ F ds ρ', At K T F H σ ρ ∧ RpAll K F vs ds ∧ g ρ ds = some ρ' ∧ ∀ σ', At K T F H σ' ρ' → (∀ H0, Ow H0 σ ρ → Ow H0 σ' ρ') → Q σ' H
theorem _root_.L2.PG.to {X : Cx} {e : Expr} {t u : TG} (h : PG X e t) (k : ∀ v σ H Q, u v σ H Q → t v σ H Q) : PG X e u := ⟨fun pins s σ H v w Q I r q => h.run pins s σ H v w Q I r (k v σ H Q q)⟩
theorem _root_.L2.PG.or {X : Cx} {e : Expr} {t u : TG} (h : PG X e t) (h2 : PG X e u) : PG X e (fun v σ H Q => t v σ H Q ∨ u v σ H Q) := ⟨fun pins s σ H v w Q I r q => q.elim (h.run pins s σ H v w Q I r) (h2.run pins s σ H v w Q I r)⟩
theorem _root_.L2.PGs.to {X : Cx} {es : List Expr} {t u : TGs} (h : PGs X es t) (k : ∀ v σ H Q, u v σ H Q → t v σ H Q) : PGs X es u := ⟨fun pins s σ H v w Q I r q => h.run pins s σ H v w Q I r (k v σ H Q q)⟩
section
variable {X : Cx} {T : List (Addr × Str)} {W : WX} {F0 H0 : Hp}
abbrev DG (X : Cx) (T : List (Addr × Str)) (e : Expr) (g : Tg) : Prop := PG X e (tGd X.K T g)
abbrev DGs (X : Cx) (T : List (Addr × Str)) (es : List Expr) (g : Tgs) : Prop := PGs X es (tGs X.K T g)
theorem g_name {i : Nat} {e : Expr} (h : PG X e (gName i)) : DG X T e (gn i) := h.to fun v σ H Q ⟨ρ, F, d, ρ', a, r, hg, q⟩ => by
  cases hg
  exact q _ ⟨a.z, a.t, a.r.set r⟩ fun H0 o => o.set
theorem gs_nil : DGs X T [] gsn := pgs_nil.to fun v σ H Q ⟨ρ, F, d, ρ', a, r, hg, q⟩ => by
  cases d with
  | nil =>
    cases r
    cases hg
    exact ⟨rfl, q σ a fun _ o => o⟩
  | cons _ _ => cases hg
theorem gs_cons {e : Expr} {es : List Expr} {g : Tg} {h : Tgs} (h1 : DG X T e g) (h2 : DGs X T es h) (hs : (assignEach (e :: es) X.env).map (·.2) = assign e X.env :: (assignEach es X.env).map (·.2) := by rfl) : DGs X T (e :: es) (gsc g h) :=
  (pgs_cons h1 h2 hs).to fun v σ H Q ⟨ρ, F, d, ρ', a, r, hg, q⟩ => by
    cases d with
    | nil => cases hg
    | cons d ds =>
      cases r with
      | cons r1 r2 =>
        have hg : (g ρ d).bind (fun ρ' => h ρ' ds) = some ρ' := hg
        cases e1 : g ρ d with
        | none => rw [e1] at hg; cases hg
        | some ρ1 =>
          rw [e1] at hg
          have hg : h ρ1 ds = some ρ' := hg
          refine ⟨_, _, rfl, ρ, F, d, ρ1, a, r1, e1, fun σ1 a1 o1 => ?_⟩
          exact ⟨ρ1, F, ds, ρ', a1, r2, hg, fun σ2 a2 o2 => q σ2 a2 fun H0 o => o2 H0 (o1 H0 o)⟩
theorem g_tup {es : List Expr} {k : Nat} {pos : Pos} {h : Tgs} {n : Nat} (hc : X.calm = true) (h1 : DGs X T es h) (hn : (assignEach es X.env).length = n := by rfl) (hst : (assignEach es X.env).findIdx? (·.1) = none := by rfl) : DG X T (.Tuple es k pos) (gt n h) :=
  (PG.or (pg_tup hc h1 hn hst) (pg_unl hc h1 hn hst)).to fun v σ H Q ⟨ρ, F, d, ρ', a, r, hg, q⟩ => by
    cases r with
    | @tup ad xs ds h1 r1 =>
      have hg : (if ds.length = n then h ρ ds else none) = some ρ' := hg
      split at hg
      · rename_i hl
        exact .inl ⟨ad, xs, rfl, a.z.sub.st h1, by rw [r1.length]; exact hl, ρ, F, ds, ρ', a, r1, hg, q⟩
      · cases hg
    | @lst ad xs ds h1 r1 =>
      have hg : (if ds.length = n then h ρ ds else none) = some ρ' := hg
      split at hg
      · rename_i hl
        exact .inr ⟨ad, xs, rfl, SqL.of (a.z.sub _ _ h1), by rw [r1.length]; exact hl, ρ, F, ds, ρ', a, r1, hg, q⟩
      · cases hg
    | _ => cases hg
theorem s_nil : DSs X T W F0 H0 [] sskip := pss_nil.to fun Z σ H ⟨ρ, F, g, h⟩ => h σ F H g (Sub.refl F)
theorem s_one {st : Stmt} {s : Rho → SR} (h : DS X T W F0 H0 st s) : DSs X T W F0 H0 [st] s := pss_one h
theorem s_cons {st : Stmt} {rest : List Stmt} {s t : Rho → SR} (h : DS X T W F0 H0 st s) (h2 : DSs X T W F0 H0 rest t) : DSs X T W F0 H0 (st :: rest) (sseq s t) :=
  (pss_cons h h2).to fun Z σ H ⟨ρ, F, g, h⟩ => by
    refine ⟨ρ, F, g, ?_⟩
    unfold sseq at h
    cases e : s ρ with
    | nx ρ' =>
      rw [e] at h
      exact fun σ' F' H' g' sb => ⟨ρ', F', g', aftS.mono sb h⟩
    | bk ρ' => rw [e] at h; exact h
    | ct ρ' => rw [e] at h; exact h
    | rt d => rw [e] at h; exact h
    | ex n ρ' => rw [e] at h; exact h
    | bad => rw [e] at h; exact h
theorem s_ret {e : Expr} {pos : Pos} {f : Rho → Res D} (h : DE X T W e f) : DS X T W F0 H0 (.Return (some e) pos) (sret f) :=
  (ps_ret h).to fun Z σ H ⟨ρ, F, g, h⟩ => by
    refine ⟨ρ, F, g.at_, (aftS.bind (R := Rp X.K) g h).imp fun d _ v F1 H1 _ _ q => ?_⟩
    obtain ⟨b, F2, _, n, g2, rv, q⟩ := q
    exact q v F2 H1 g2.nx rv
theorem s_if {c : Expr} {a b : List Stmt} {pos : Pos} {f : Rho → Res Bool} {s t : Rho → SR} (hc : DQ X T W c f) (ha : DSs X T W F0 H0 a s) (hb : DSs X T W F0 H0 b t) : DS X T W F0 H0 (.If c a b pos) (sif f s t) :=
  (ps_if hc ha hb).to fun Z σ H ⟨ρ, F, g, h⟩ => by
    refine ⟨ρ, F, g.at_, (aftS.bind (R := RBool) g h).imp fun d _ v F1 H1 _ _ q => ?_⟩
    obtain ⟨b, F2, _, n, g2, rv, q⟩ := q
    obtain rfl : v = b := rv
    cases v with
    | true => exact ⟨ρ, F2, g2, q⟩
    | false => exact ⟨ρ, F2, g2, q⟩
theorem sasg_to {f : Rho → Res D} {g : Tg} {K : PySem.W.Frag} {Z : Ends} {σ : L2.St} {H : Hp} (h : tS K T W F0 H0 (sasg f g) Z σ H) : tAsg (tE K T W f) (tGd K T g) Z σ H := by
  obtain ⟨ρ, F, gg, h⟩ := h
  refine ⟨ρ, F, gg.at_, (aftS.bind (R := Rp K) gg h).imp fun d _ v F1 H1 _ _ q => ?_⟩
  obtain ⟨b, F2, _, n, g2, rv, q⟩ := q
  cases e : g ρ b with
  | none => rw [e] at q; exact q.elim
  | some ρ' =>
    rw [e] at q
    exact ⟨ρ, F2, b, ρ', g2.at_, rv, e, fun σ' a' o' => q σ' F2 H1 ⟨a', g2.nx, o' H0 g2.ow⟩ (Sub.refl F2)⟩
theorem s_asg {tg e : Expr} {pos : Pos} {f : Rho → Res D} {g : Tg} (he : DE X T W e f) (hg : DG X T tg g) (hs : swapsWithSole [tg] e pos.line X.env = pure false := by rfl) (hw : swappedStores [tg] e X.env = pure none := by rfl)
    (h1 : (assignEach [tg] X.env).map (·.2) = [assign tg X.env] := by rfl) : DS X T W F0 H0 (.Assign [tg] e pos) (sasg f g) :=
  (ps_asg he hg hs hw h1).to fun Z σ H h => sasg_to h
end

/-! ### while -/
def whileD (c : Rho → Res Bool) (s : Rho → SR) : Nat → Rho → SR
  | 0, _ => .bad
  | n + 1, ρ => bindS (c ρ) ρ fun b => if b = true then (match s ρ with
    | .nx ρ' => whileD c s n ρ'
    | .ct ρ' => whileD c s n ρ'
    | .bk ρ' => .nx ρ'
    | r => r) else .nx ρ
section
variable {X : Cx} {T : List (Addr × Str)} {W : WX} {F0 H0 : Hp}
theorem s_while {c : Expr} {body : List Stmt} {pos : Pos} {f : Rho → Res Bool} {s : Rho → SR} (N : Nat) (hp : PassesOwn (model X.prog X.w) X.A X.env X.xe) (hc : DQ X T W c f) (hb : DSs X T W F0 H0 body s) : DS X T W F0 H0 (.While c body [] pos) (whileD f s N) :=
  (ps_while hp hc hb).to fun Z σ H ⟨ρ, F, g, h⟩ => by
    refine ⟨fun m σ H => ∃ ρ F', Sg X.K T F0 H0 F' H σ ρ ∧ aftS X.K T W F0 H0 F' Z (whileD f s m ρ), ⟨N, ρ, F, g, h⟩, ?_⟩
    rintro m σ H ⟨ρ, F1, g, h⟩
    cases m with
    | zero => exact h.elim
    | succ m =>
      refine ⟨ρ, F1, g.at_, (aftS.bind (R := RBool) g h).imp fun d _ v F2 H2 _ _ q => ?_⟩
      obtain ⟨b, F3, _, n, g2, rv, q⟩ := q
      obtain rfl : v = b := rv
      cases v with
      | false => exact q σ F3 H2 g2 (Sub.refl F3)
      | true =>
        refine ⟨fun σ' H' => ∃ ρ' F', Sg X.K T F0 H0 F' H' σ' ρ' ∧ aftS X.K T W F0 H0 F' Z (whileD f s m ρ'), fun σ' H' w => ⟨m, Nat.lt_succ_self m, w⟩, ρ, F3, g2, ?_⟩
        have q : aftS X.K T W F0 H0 F3 Z (match s ρ with
          | .nx ρ' => whileD f s m ρ'
          | .ct ρ' => whileD f s m ρ'
          | .bk ρ' => .nx ρ'
          | r => r) := q
        cases e : s ρ with
        | nx ρ' => rw [e] at q; exact fun σ' F' H' g' sb => ⟨ρ', F', g', aftS.mono sb q⟩
        | ct ρ' => rw [e] at q; exact fun σ' F' H' g' sb => ⟨ρ', F', g', aftS.mono sb q⟩
        | bk ρ' => rw [e] at q; exact q
        | rt d => rw [e] at q; exact q
        | ex n ρ' => rw [e] at q; exact q
        | bad => rw [e] at q; exact q
end

/-! ### what is walked -/
/-- the walk J gives ds, while F is frozen -/
def Walks (K : PySem.W.Frag) (T : List (Addr × Str)) (F : Hp) (J : It) (ds : List D) : Prop :=
  ∀ (i : Nat) (F' H : Hp), Sub F F' → Fz F' H → (∀ d, ds[i]? = some d → J.go i H ∧ ∀ x H', J.yld i H x H' → ∃ F2, Nx T F' H F2 H' ∧ Rp K F2 x d) ∧ (ds.length ≤ i → J.stop i H)
def tI (K : PySem.W.Frag) (T : List (Addr × Str)) (W : WX) (f : Rho → Res (List D)) : TI := tG (fun K F J ds => Walks K T F J ds) K T W f
abbrev DI (X : Cx) (T : List (Addr × Str)) (W : WX) (tg iter : Expr) (f : Rho → Res (List D)) : Prop := PI X tg iter (tI X.K T W f)
theorem _root_.L2.PI.to {X : Cx} {tg e : Expr} {t u : TI} (h : PI X tg e t) (k : ∀ σ H R, u σ H R → t σ H R) : PI X tg e u := ⟨fun pins s σ H R I q => h.run pins s σ H R I (k σ H R q)⟩
theorem _root_.L2.PI.or {X : Cx} {tg e : Expr} {t u : TI} (h : PI X tg e t) (h2 : PI X tg e u) : PI X tg e (fun σ H R => t σ H R ∨ u σ H R) := ⟨fun pins s σ H R I q => q.elim (h.run pins s σ H R I) (h2.run pins s σ H R I)⟩
def loopD (g : Tg) (s : Rho → SR) : List D → Rho → SR
  | [], ρ => .nx ρ
  | d :: ds, ρ => match g ρ d with
    | none => .bad
    | some ρ1 => match s ρ1 with
      | .nx ρ' => loopD g s ds ρ'
      | .ct ρ' => loopD g s ds ρ'
      | .bk ρ' => .nx ρ'
      | r => r
def sfor (f : Rho → Res (List D)) (g : Tg) (s : Rho → SR) : Rho → SR := fun ρ => bindS (f ρ) ρ fun ds => loopD g s ds ρ
section
variable {X : Cx} {T : List (Addr × Str)} {W : WX} {F0 H0 : Hp}
theorem s_for {tg iter : Expr} {body : List Stmt} {pos : Pos} {f : Rho → Res (List D)} {g : Tg} {s : Rho → SR} (hp : PassesOwn (model X.prog X.w) X.A X.env X.xe) (hc : X.calm = true) (hi : DI X T W tg iter f) (hg : DG X T tg g) (hb : DSs X T W F0 H0 body s)
    (hs : ∀ x, foldedSetIterable iter X.env x = pure x := by intro _; rfl) : DS X T W F0 H0 (.For tg iter body [] pos) (sfor f g s) :=
  (ps_for hp hc hi hg hb hs).to fun Z σ H ⟨ρ, F, gg, h⟩ => by
    refine ⟨ρ, F, gg.at_, (aftS.bind (R := fun F J ds => Walks X.K T F J ds) gg h).imp fun d _ J F1 H1 _ _ q => ?_⟩
    obtain ⟨ds, F2, _, n, g2, wk, q⟩ := q
    refine ⟨fun i m σ H => m = ds.length - i ∧ i ≤ ds.length ∧ ∃ ρ F', Sg X.K T F0 H0 F' H σ ρ ∧ Sub F2 F' ∧ aftS X.K T W F0 H0 F' Z (loopD g s (ds.drop i) ρ), ⟨ds.length, by omega, by omega, ρ, F2, g2, Sub.refl F2, q⟩, ?_⟩
    rintro i m σ H ⟨rfl, hi, ρ, F3, g3, sb, q⟩
    obtain ⟨wg, ws⟩ := wk i F3 H sb g3.at_.z
    by_cases hlt : i < ds.length
    · have e : ds[i]? = some ds[i] := List.getElem?_eq_getElem hlt
      obtain ⟨go, yl⟩ := wg _ e
      refine .inr ⟨go, fun σ' H' => ∃ ρ' F', Sg X.K T F0 H0 F' H' σ' ρ' ∧ Sub F2 F' ∧ aftS X.K T W F0 H0 F' Z (loopD g s (ds.drop (i + 1)) ρ'), fun σ' H' w => ⟨ds.length - (i + 1), by omega, rfl, by omega, w⟩, fun x H' y => ?_⟩
      obtain ⟨F4, n4, rx⟩ := yl x H' y
      rw [List.drop_eq_getElem_cons hlt] at q
      have g4 := g3.step n4
      have q : aftS X.K T W F0 H0 F3 Z (match g ρ ds[i] with
        | none => .bad
        | some ρ1 => match s ρ1 with
          | .nx ρ' => loopD g s (ds.drop (i + 1)) ρ'
          | .ct ρ' => loopD g s (ds.drop (i + 1)) ρ'
          | .bk ρ' => .nx ρ'
          | r => r) := q
      cases eg : g ρ ds[i] with
      | none => rw [eg] at q; exact q.elim
      | some ρ1 =>
        rw [eg] at q
        have q : aftS X.K T W F0 H0 F3 Z (match s ρ1 with
          | .nx ρ' => loopD g s (ds.drop (i + 1)) ρ'
          | .ct ρ' => loopD g s (ds.drop (i + 1)) ρ'
          | .bk ρ' => .nx ρ'
          | r => r) := q
        refine ⟨ρ, F4, ds[i], ρ1, g4.at_, rx, eg, fun σ1 a1 o1 => ⟨ρ1, F4, ⟨a1, g4.nx, o1 H0 g4.ow⟩, ?_⟩⟩
        cases e2 : s ρ1 with
        | nx ρ' => rw [e2] at q; exact fun σ' F' H' g' sb' => ⟨ρ', F', g', (sb.trans n4.f).trans sb', aftS.mono (n4.f.trans sb') q⟩
        | ct ρ' => rw [e2] at q; exact fun σ' F' H' g' sb' => ⟨ρ', F', g', (sb.trans n4.f).trans sb', aftS.mono (n4.f.trans sb') q⟩
        | bk ρ' => rw [e2] at q; exact fun σ' F' H' g' sb' => q σ' F' H' g' (n4.f.trans sb')
        | rt d => rw [e2] at q; exact q
        | ex n ρ' => rw [e2] at q; exact fun σ' F' H' g' sb' => q σ' F' H' g' (n4.f.trans sb')
        | bad => rw [e2] at q; exact q
    · have e : i = ds.length := by omega
      subst e
      refine .inl ⟨ws (Nat.le_refl _), ?_⟩
      rw [List.drop_length] at q
      exact q σ F3 H g3 (Sub.refl F3)

/-! the walks -/
def itemsD : D → Res (List D)
  | .tup xs => .ok xs
  | .lst xs => .ok xs
  | .arr ns => .ok (ns.map .int)
  | .str x => .ok (x.cps.toList.map fun c => .str ⟨#[c]⟩)
  | _ => .bad
def its (f : Rho → Res D) : Rho → Res (List D) := fun ρ => (f ρ).bind itemsD
theorem walks_list {K : PySem.W.Frag} {F : Hp} {a : Addr} {xs : List V} {ds : List D} (h : SqL K F a xs) (r : RpAll K F xs ds) : Walks K T F (Itl K a) ds := fun i F' H sb z => by
  have hl : SqL K H a xs := (sb.trans z.sub).sl h
  refine ⟨fun d hd => ?_, fun hle => ⟨xs, hl, by rw [r.length]; exact hle⟩⟩
  obtain ⟨v, hv, rv⟩ := r.get hd
  refine ⟨⟨xs, v, hl, hv⟩, fun x H' y => ?_⟩
  obtain ⟨rfl, y⟩ := y
  have e := y xs hl
  rw [hv] at e
  cases e
  exact ⟨F', Nx.refl z, rv.mono sb⟩
theorem walks_tup {K : PySem.W.Frag} {F : Hp} {a : Addr} {xs : List V} {ds : List D} (h : SqT K F a xs) (r : RpAll K F xs ds) : Walks K T F (Itt K a) ds := fun i F' H sb z => by
  have hl : SqT K H a xs := (sb.trans z.sub).st h
  refine ⟨fun d hd => ?_, fun hle => ⟨xs, hl, by rw [r.length]; exact hle⟩⟩
  obtain ⟨v, hv, rv⟩ := r.get hd
  refine ⟨⟨xs, v, hl, hv⟩, fun x H' y => ?_⟩
  obtain ⟨rfl, y⟩ := y
  have e := y xs hl
  rw [hv] at e
  cases e
  exact ⟨F', Nx.refl z, rv.mono sb⟩
end
end DN
namespace DN
open PySem PySem.Spec PyProof.Rows L2
open LamX (Tabs ExtN)

/-! ### the walks of for and of comprehensions -/
section
variable {X : Cx} {T : List (Addr × Str)} {W : WX} {F0 H0 : Hp}
theorem walks_str {K : PySem.W.Frag} {F : Hp} {x : Str} : Walks K T F (Its x) (x.cps.toList.map fun c => D.str ⟨#[c]⟩) := fun i F' H sb z => by
  refine ⟨fun d hd => ?_, fun hle => ?_⟩
  · rw [List.getElem?_map] at hd
    cases e : x.cps.toList[i]? with
    | none => rw [e] at hd; cases hd
    | some c =>
      rw [e] at hd
      cases hd
      have hi : i < x.cps.size := by
        have := (List.getElem?_eq_some_iff.mp e).1
        simpa using this
      refine ⟨hi, fun v H' y => ?_⟩
      obtain ⟨rfl, c', hc', rfl⟩ := y
      have e2 : x.cps[i]? = some c := by simpa using e
      rw [e2] at hc'
      cases hc'
      exact ⟨F', Nx.refl z, .str _⟩
  · show x.cps.size ≤ i
    simpa using hle
theorem i_any {tg l : Expr} {f : Rho → Res D} (h : DE X T W l f) : DI X T W tg l (its f) :=
  ((pi_list h).or ((pi_tup h).or (pi_str h))).to fun σ H R ⟨ρ, F, a, h⟩ => by
    have h : aft (fun F J ds => Walks X.K T F J ds) X.K T W σ F H R ((f ρ).bind itemsD) := h
    cases e : f ρ with
    | bad => rw [e] at h; exact h.elim
    | ex n =>
      rw [e] at h
      exact .inl ⟨ρ, F, a, by rw [e]; exact h⟩
    | ok d =>
      rw [e] at h
      have h : aft (fun F J ds => Walks X.K T F J ds) X.K T W σ F H R (itemsD d) := h
      cases d with
      | lst ds =>
        refine .inl ⟨ρ, F, a, ?_⟩
        rw [e]
        intro v F' H' n r
        cases r with
        | lst h1 r1 => exact ⟨_, rfl, ⟨_, SqL.of (n.z.sub _ _ h1)⟩, h _ F' H' n (walks_list (SqL.of h1) r1)⟩
      | arr ns =>
        refine .inl ⟨ρ, F, a, ?_⟩
        rw [e]
        intro v F' H' n r
        cases r with
        | arr h1 => exact ⟨_, rfl, ⟨_, n.z.sub.sl h1⟩, h _ F' H' n (walks_list h1 (RpAll.ints ns))⟩
      | tup ds =>
        refine .inr (.inl ⟨ρ, F, a, ?_⟩)
        rw [e]
        intro v F' H' n r
        cases r with
        | tup h1 r1 => exact ⟨_, rfl, ⟨_, n.z.sub.st h1⟩, h _ F' H' n (walks_tup h1 r1)⟩
      | str x =>
        refine .inr (.inr ⟨ρ, F, a, ?_⟩)
        rw [e]
        intro v F' H' n r
        cases r
        exact ⟨x, rfl, h _ F' H' n walks_str⟩
      | _ => exact h.elim
def rngD (lo : Int) (n : Nat) : List D := (List.range n).map fun (i : Nat) => D.int (lo + (i : Int))
theorem walks_rng {K : PySem.W.Frag} {F : Hp} {lo : Int} {n : Nat} : Walks K T F (Itr lo n) (rngD lo n) := fun i F' H sb z => by
  refine ⟨fun d hd => ?_, fun hle => ?_⟩
  · unfold rngD at hd
    rw [List.getElem?_map] at hd
    cases e : (List.range n)[i]? with
    | none => rw [e] at hd; cases hd
    | some j =>
      rw [e] at hd
      cases hd
      obtain ⟨h1, h2⟩ := List.getElem?_eq_some_iff.mp e
      rw [List.getElem_range] at h2
      rw [List.length_range] at h1
      subst h2
      refine ⟨h1, fun v H' y => ?_⟩
      obtain ⟨rfl, rfl⟩ := y
      exact ⟨F', Nx.refl z, .int _⟩
  · unfold rngD at hle
    rw [List.length_map, List.length_range] at hle
    exact hle
def rng1 (f : Rho → Res (List D)) : Rho → Res (List D) := fun ρ => (f ρ).bind fun ds => match ds with
  | [.int j] => if -(2 ^ 62) ≤ j ∧ j < 2 ^ 62 then .ok (rngD 0 j.toNat) else .bad
  | _ => .bad
theorem i_rng1 {tg a : Expr} {p pos : Pos} {f : Rho → Res (List D)} (hg : Gl X "range") (hm : X.mg "range" = none) (ha : DA X T W [a] f) (hs : starEach [a] X.env = [(false, eval a X.env)] := by rfl) : DI X T W tg (.Call (.Name "range" p) [a] [] pos) (rng1 f) :=
  (pi_range1 hg hm ha hs).to fun σ H R ⟨ρ, F, a, h⟩ => by
    refine ⟨ρ, F, a, (aft.bind (R := RpAll X.K) h).imp fun d _ v F1 H1 _ _ q => ?_⟩
    obtain ⟨ds, F2, _, n, rv, q⟩ := q
    match ds, rv, q with
    | [.int j], .cons (.int _) .nil, q =>
      have q : aft (fun F J ds => Walks X.K T F J ds) X.K T W σ F2 H1 R (if -(2 ^ 62) ≤ j ∧ j < 2 ^ 62 then .ok (rngD 0 j.toNat) else .bad) := q
      split at q
      · rename_i hj
        exact ⟨j, rfl, hj.1, hj.2, q _ F2 H1 (Nx.refl n.z) walks_rng⟩
      · exact q.elim
end

/-! ### comprehensions -/
def wipeR (ρ : Rho) : List Nat → Rho
  | [] => ρ
  | v :: vs => (wipeR ρ vs).set v .u
def compD (g : Tg) (t : Rho → Res Bool) (e : Rho → Res D) (ρ : Rho) : List D → Res (List D)
  | [] => .ok []
  | d :: ds => match g ρ d with
    | none => .bad
    | some ρ1 => match t ρ1 with
      | .ok b => if b = true then (match e ρ1 with
        | .ok y => (compD g t e ρ ds).bind fun ys => .ok (y :: ys)
        | _ => .bad) else compD g t e ρ ds
      | _ => .bad
def lcD (f : Rho → Res (List D)) (i : Nat) (t : Rho → Res Bool) (e : Rho → Res D) : Rho → Res D := fun ρ => (f ρ).bind fun ds => if ds.length < sizeLine then (compD (gn i) t e (ρ.set i .u) ds).bind fun ys => .ok (.lst ys) else .bad
def yes : Rho → Res Bool := fun _ => .ok true
theorem tabs_upd {T : List (Addr × Str)} {H : Hp} {p : Addr} {xs : List V} {o : HO} (h : Tabs T H) (e : H p = some (.lst xs)) : Tabs T (upd H p o) := fun q hq => by
  obtain ⟨ps, h1, h2, h3⟩ := h q hq
  refine ⟨ps, ?_, h2, fun pos cv hc => ?_⟩
  · rw [upd_ne fun z => by rw [z, e] at h1; cases h1]; exact h1
  · obtain ⟨c, e1, e2⟩ := h3 pos cv hc
    refine ⟨c, e1, ?_⟩
    rw [upd_ne fun z => by rw [z, e] at e2; unfold LamX.CodeO at e2; cases e2]; exact e2
section
variable {X : Cx} {T : List (Addr × Str)} {W : WX} {F0 H0 : Hp}
abbrev W0 : WX := fun _ _ _ _ => False
theorem no_ex {α β : Type} {R : Hp → α → β → Prop} {K : PySem.W.Frag} {σ : L2.St} {F H : Hp} {Q : α → Hp → Prop} {r : Res β} (z : Fz F H) {b : β} (e : r = .ok b) (h : ∀ a F' H', Nx T F H F' H' → R F' a b → Q a H') : aft R K T W0 σ F H Q r := by
  rw [e]; exact h
theorem lc_to {K : PySem.W.Frag} {f : Rho → Res (List D)} {i : Nat} {t : Rho → Res Bool} {e : Rho → Res D} {σ : L2.St} {H : Hp} {Q : VK} (h : tE K T W (lcD f i t e) σ H Q) :
    tLc (tI K T W f) (gName i) (tT K T W0 t) (tE K T W0 e) [i] σ H Q := by
  obtain ⟨ρ, F, a, h⟩ := h
  refine ⟨ρ, F, a, (aft.bind (R := fun F J ds => Walks K T F J ds) h).imp fun d _ J F1 H1 _ _ q => ?_⟩
  obtain ⟨ds, F2, _, n, wk, q⟩ := q
  have q : aft (Rp K) K T W σ F2 H1 Q (if ds.length < sizeLine then (compD (gn i) t e (ρ.set i .u) ds).bind fun ys => .ok (.lst ys) else .bad) := q
  split at q
  · rename_i hlen
    cases hc : compD (gn i) t e (ρ.set i .u) ds with
    | bad => rw [hc] at q; exact q.elim
    | ex m =>
      exfalso
      have : ∀ ds : List D, compD (gn i) t e (ρ.set i .u) ds ≠ .ex m := fun ds => by
        induction ds with
        | nil => intro z; cases z
        | cons d ds ih =>
          intro z
          unfold compD at z
          simp only [gn] at z
          split at z
          · split at z
            · split at z
              · cases e2 : compD (gn i) t e (ρ.set i .u) ds with
                | ok ys => rw [e2] at z; cases z
                | ex m' =>
                  rw [e2] at z
                  cases z
                  exact ih e2
                | bad => rw [e2] at z; cases z
              · cases z
            · exact ih z
          · cases z
      exact this ds hc
    | ok ys =>
      rw [hc] at q
      have a2 := a.nx n
      intro p hp
      -- behind k turns
      refine ⟨fun k m H => m = ds.length - k ∧ k ≤ ds.length ∧ ∃ F' acc dacc rest, Nx T F2 H1 F' H ∧ F' p = none ∧ H p = some (.lst acc) ∧ RpAll K F' acc dacc ∧ acc.length ≤ k ∧ compD (gn i) t e (ρ.set i .u) (ds.drop k) = .ok rest ∧ dacc ++ rest = ys,
        ⟨ds.length, by omega, by omega, F2, [], [], ys, Nx.lay n.z hp, ?_, upd_same, .nil, by simp, hc, rfl⟩, ?_⟩
      · cases z : F2 p with
        | none => rfl
        | some o =>
          have := n.z.sub _ _ z
          rw [hp] at this; cases this
      rintro k m H ⟨rfl, hk, F', acc, dacc, rest, nx, hFp, hHp, ra, la, hr, hy⟩
      obtain ⟨wg, ws⟩ := wk k F' H nx.f nx.z
      by_cases hlt : k < ds.length
      · obtain ⟨go, yl⟩ := wg _ (List.getElem?_eq_getElem hlt)
        rw [List.drop_eq_getElem_cons hlt] at hr
        unfold compD at hr
        simp only [gn] at hr
        refine .inr ⟨go, fun H => ∃ F' acc dacc rest, Nx T F2 H1 F' H ∧ F' p = none ∧ H p = some (.lst acc) ∧ RpAll K F' acc dacc ∧ acc.length ≤ k + 1 ∧ compD (gn i) t e (ρ.set i .u) (ds.drop (k + 1)) = .ok rest ∧ dacc ++ rest = ys, fun H' w => ⟨ds.length - (k + 1), by omega, rfl, by omega, w⟩, fun x H' y => ?_⟩
        obtain ⟨F3, n3, rx⟩ := yl x H' y
        have hp3 : H' p = some (.lst acc) := n3.keep hHp ntL
        have hf3 : F3 p = none := n3.out hHp ntL hFp
        have a3 : At K T F3 H' (σ.set i none) (ρ.set i .u) := ⟨n3.z, (nx.trans n3).tab a2.t, (a2.r.mono (nx.trans n3)).wipe1⟩
        have a4 : At K T F3 H' ((σ.set i none).set i (some x)) ((ρ.set i .u).set i (.z ds[k])) := ⟨a3.z, a3.t, a3.r.set rx⟩
        show wipe ((σ.set i none).set i (some x)) [i] = wipe σ [i] ∧ _
        refine ⟨?_, ?_⟩
        · show ((σ.set i none).set i (some x)).set i none = σ.set i none
          rw [List.set_set, List.set_set]
        · cases ht : t ((ρ.set i .u).set i (.z ds[k])) with
          | bad => rw [ht] at hr; cases hr
          | ex m => rw [ht] at hr; cases hr
          | ok b =>
            rw [ht] at hr
            refine ⟨_, F3, a4, no_ex a4.z ht fun b' F4 H4 n4 rb => ?_⟩
            obtain rfl : b' = b := rb
            cases b' with
            | false =>
              show ∃ F' acc dacc rest, _
              have hr : compD (gn i) t e (ρ.set i .u) (ds.drop (k + 1)) = .ok rest := hr
              exact ⟨F4, acc, dacc, rest, (nx.trans n3).trans n4, n4.out hp3 ntL hf3, n4.keep hp3 ntL, ra.mono (n3.trans n4).f, by omega, hr, hy⟩
            | true =>
              have hr : (match e ((ρ.set i .u).set i (.z ds[k])) with
                | .ok y => (compD (gn i) t e (ρ.set i .u) (ds.drop (k + 1))).bind fun ys => .ok (y :: ys)
                | _ => .bad) = .ok rest := hr
              cases he : e ((ρ.set i .u).set i (.z ds[k])) with
              | bad => rw [he] at hr; cases hr
              | ex m => rw [he] at hr; cases hr
              | ok y =>
                rw [he] at hr
                have hr : (compD (gn i) t e (ρ.set i .u) (ds.drop (k + 1))).bind (fun ys => .ok (y :: ys)) = .ok rest := hr
                cases hr2 : compD (gn i) t e (ρ.set i .u) (ds.drop (k + 1)) with
                | bad => rw [hr2] at hr; cases hr
                | ex m => rw [hr2] at hr; cases hr
                | ok rest' =>
                  rw [hr2] at hr
                  cases hr
                  show tE K T W0 e _ H4 _
                  refine ⟨_, F4, a4.nx n4, no_ex n4.z he fun v F5 H5 n5 rv => ?_⟩
                  have hp5 : H5 p = some (.lst acc) := (n4.trans n5).keep hp3 ntL
                  have hf5 : F5 p = none := (n4.trans n5).out hp3 ntL hf3
                  have n6 := (nx.trans n3).trans (n4.trans n5)
                  refine ⟨acc, hp5, by omega, F5, acc ++ [v], dacc ++ [y], rest', ⟨n6.f, ⟨fun b o eb => ?_, n6.z.nt⟩, fun b o eb no => ?_, n6.new, fun tb => tabs_upd (n6.tab tb) hp5⟩, hf5, upd_same, ?_, by rw [List.length_append]; simp; omega, rfl, by rw [List.append_assoc]; exact hy⟩
                  · rw [upd_ne fun z => by rw [z, hf5] at eb; cases eb]
                    exact n6.z.sub _ _ eb
                  · rw [upd_ne fun z => by rw [z, hp] at eb; cases eb]
                    exact n6.h _ _ eb no
                  · exact (ra.mono ((n3.trans n4).trans n5).f).append (.cons rv .nil)
      · have ek : k = ds.length := by omega
        subst ek
        refine .inl ⟨ws (Nat.le_refl _), ?_⟩
        rw [List.drop_length] at hr
        cases hr
        rw [List.append_nil] at hy
        subst hy
        refine q (.ref p) (upd F' p (.lst acc)) H ⟨fun b o eb => ?_, ⟨fun b o eb => ?_, fun b ps eb => ?_⟩, nx.h, fun b o eb => ?_, nx.tab⟩ (.lst upd_same (ra.mono fun b o eb => ?_))
        · rw [upd_ne fun z => by rw [z] at eb; rw [nx.f _ _ eb] at hFp; cases hFp]
          exact nx.f _ _ eb
        · by_cases hb : b = p
          · subst hb; rw [upd_same] at eb; rw [← eb]; exact hHp
          · rw [upd_ne hb] at eb; exact nx.z.sub _ _ eb
        · by_cases hb : b = p
          · subst hb; rw [upd_same] at eb; cases eb
          · rw [upd_ne hb] at eb; exact nx.z.nt _ _ eb
        · by_cases hb : b = p
          · subst hb
            exact .inr fun o' e' => by rw [hp] at e'; cases e'
          · rw [upd_ne hb] at eb; exact nx.new _ _ eb
        · rw [upd_ne fun z => by rw [z, hFp] at eb; cases eb]; exact eb
  · exact q.elim
theorem ts_nil : PTs X [] (tT X.K T W yes) := ⟨fun pins s σ H Q I ⟨ρ, F, a, h⟩ => pts_nil.run pins s σ H Q I (h true F H (Nx.refl a.z) rfl)⟩
theorem e_lc {elt tg iter : Expr} {ifs : List Expr} {scope : Scope} {x : Str} {i : Nat} {pos : Pos} {f : Rho → Res (List D)} {t : Rho → Res Bool} {e : Rho → Res D} (hc : X.calm = true) (hN : X.N.Nodup) (hi : DI X T W tg iter f) (ok : BlkOk X.N X.env.scope scope [(x, i)])
    (hg : ∀ (s : Shared) (H : Hp) (C : Addr) (cl : List (Str × Addr)) (fp : List Addr), PG (X.blk s H scope (compEnvC scope cl C X.env) fp) tg (gName i))
    (ht : ∀ (s : Shared) (H : Hp) (C : Addr) (cl : List (Str × Addr)) (fp : List Addr), PTs (X.blk s H scope (compEnvC scope cl C X.env) fp) ifs (tT X.K T W0 t))
    (he : ∀ (s : Shared) (H : Hp) (C : Addr) (cl : List (Str × Addr)) (fp : List Addr), DE (X.blk s H scope (compEnvC scope cl C X.env) fp) T W0 elt e) (hs : ∀ x, foldedSetIterable iter X.env x = pure x := by intro _; rfl) :
    DE X T W (.ListComp elt [⟨tg, iter, ifs, 0⟩] scope pos) (lcD f i t e) :=
  (pe_lc (own := [(x, i)]) hc hN hi ok hg ht he hs).to fun _ _ _ h => lc_to h
theorem s_setLc {j : Nat} {y : Str} {py : Pos} {elt tg iter : Expr} {ifs : List Expr} {scope : Scope} {x : Str} {i : Nat} {pos spos : Pos} {f : Rho → Res (List D)} {t : Rho → Res Bool} {e : Rho → Res D} (hc : X.calm = true) (hN : X.N.Nodup) (hy : X.N[j]? = some y) (hyl : X.env.scope.names.lookup y = some .local)
    (hsw : swapsWith (.ListComp elt [⟨tg, iter, ifs, 0⟩] scope pos) (some (.Name y py)) spos.line X.env = pure true) (hi : DI X T W tg iter f) (ok : BlkOk X.N X.env.scope scope [(x, i)])
    (hg : ∀ (s : Shared) (H : Hp) (C : Addr) (cl : List (Str × Addr)) (fp : List Addr), PG (X.blk s H scope (compEnvC scope cl C X.env) fp) tg (gName i))
    (ht : ∀ (s : Shared) (H : Hp) (C : Addr) (cl : List (Str × Addr)) (fp : List Addr), PTs (X.blk s H scope (compEnvC scope cl C X.env) fp) ifs (tT X.K T W0 t))
    (he : ∀ (s : Shared) (H : Hp) (C : Addr) (cl : List (Str × Addr)) (fp : List Addr), DE (X.blk s H scope (compEnvC scope cl C X.env) fp) T W0 elt e) (hs : ∀ x, foldedSetIterable iter X.env x = pure x := by intro _; rfl) :
    DS X T W F0 H0 (.Assign [.Name y py] (.ListComp elt [⟨tg, iter, ifs, 0⟩] scope pos) spos) (sasg (lcD f i t e) (gn j)) :=
  (ps_setLc (own := [(x, i)]) hc hN hy hyl hsw hi ok hg ht he hs).to fun Z σ H h => by
    have h2 := sasg_to h
    obtain ⟨ρ, F, a, h2⟩ := h2
    refine lc_to ⟨ρ, F, a, h2.imp fun d _ v F1 H1 n r q => ?_⟩
    obtain ⟨ρ2, F2, d2, ρ3, a2, r2, hg2, q⟩ := q
    cases hg2
    exact q _ ⟨a2.z, a2.t, a2.r.set r2⟩ fun H0 o => o.set
end

/-! ### defs -/
def startR (n : Nat) (ds : List D) : Rho := ds.map En.z ++ List.replicate (n - ds.length) .u
def runB (n : Nat) (s : Rho → SR) (ds : List D) : Res D := match s (startR n ds) with
  | .nx _ => .ok .non
  | .rt d => .ok d
  | .ex m _ => .ex m
  | _ => .bad
abbrev WofE (E : XK) : WX := fun cls d _ H => E cls d H
def spD (K : PySem.W.Frag) (T : List (Addr × Str)) (n : Nat) (den : List D → Res D) : Sp := fun vs H Q E => ∃ F ds, Fz F H ∧ Tabs T H ∧ RpAll K F vs ds ∧ ds.length = n ∧ aft (Rp K) K T (WofE E) [] F H Q (den ds)
def callD (n : Nat) (den : List D → Res D) (f : Rho → Res (List D)) : Rho → Res D := fun ρ => (f ρ).bind fun ds => if ds.length = n then den ds else .bad
theorem Rl.start {K : PySem.W.Frag} {F H : Hp} {vs : List V} {ds : List D} {N : List Str} (r : RpAll K F vs ds) : Rl K F H (L2.start N vs) (startR N.length ds) := by
  have hl := r.length
  have key : ∀ (i : Nat) (en : En), (startR N.length ds)[i]? = some en → (∃ d, ds[i]? = some d ∧ en = .z d) ∨ en = .u := fun i en h => by
    unfold startR at h
    rw [List.getElem?_append] at h
    split at h
    · rw [List.getElem?_map] at h
      cases e : ds[i]? with
      | none => rw [e] at h; cases h
      | some d => rw [e] at h; cases h; exact .inl ⟨d, rfl, rfl⟩
    · rw [List.getElem?_replicate] at h
      split at h
      · cases h; exact .inr rfl
      · cases h
  refine ⟨?_, fun i d h => ?_, fun i d h => ?_, fun i j d e p q _ h => ?_⟩
  · unfold L2.start startR
    simp [hl]
  · rcases key i _ h with ⟨d', e, z⟩ | z
    · cases z
      obtain ⟨v, hv, rv⟩ := r.get e
      refine ⟨v, ?_, rv⟩
      unfold L2.start
      rw [List.getElem?_append_left (by rw [List.length_map]; exact (List.getElem?_eq_some_iff.mp hv).1), List.getElem?_map, hv]
      rfl
    · cases z
  · rcases key i _ h with ⟨d', e, z⟩ | z <;> cases z
  · rcases key i _ h with ⟨d', e, z⟩ | z <;> cases z
structure OkD (P : Program) (w : World) (K : PySem.W.Frag) (mg : Str → Option Value) (base : Heap) (T : List (Addr × Str)) (k : Nat) (x : Str) (n : Nat) (den : List D → Res D) : Prop where
  ex : ∃ fd ps, FnOk P w K mg base (L2.CX P w) k (He.ga K x) fd ps (spD K T n den) ∧ Binds K fd ps []
  kp : PySem.W.keepIn K (.ref (He.ga K x)) = true
  mg : mg x = some (.ref (He.ga K x))
theorem fn_ok {P : Program} {w : World} {K : PySem.W.Frag} {mg : Str → Option Value} {base : Heap} {T : List (Addr × Str)} {k : Nat} {x qual : Str} {params : Arguments} {body : List Stmt} {scope : Scope} {kws : List (Str × V)} {f : Addr} {fd : FuncData} {N ps : List Str} {n : Nat} {s : Rho → SR}
    (Fd : FunD K x qual params body scope [] kws f fd) (S : FnScope N ps scope) (hn : ps.length = n)
    (hb : ∀ (cdv : Value) (A : Around) (outer : List Env) (s0 : Shared) (H0 : Hp) (E : XK) (F0 : Hp), Room k (A.deeper (envOfC qual scope s0.heap.objs.size f cdv)) → DSs (cxOf (L2.CX P w) P w K mg base N qual scope f cdv A outer s0 H0 E) T (WofE E) F0 H0 body s) :
    FnOk P w K mg base (L2.CX P w) (k + 1) f fd ps (spD K T n (runB N.length s)) := by
  refine Fd.ok S (fun vs H Q E h => ?_) fun cdv A outer s0 H vs Q E hr h => ?_
  · obtain ⟨F, ds, _, _, r, hl, _⟩ := h
    rw [r.length, hl, hn]
  · obtain ⟨F, ds, z, tb, r, hl, h⟩ := h
    refine ⟨_, hb cdv A outer s0 H E F hr, startR N.length ds, F, ⟨⟨z, tb, Rl.start r⟩, Nx.refl z, fun i d p h1 => ?_⟩, ?_⟩
    · exfalso
      have o := (Rl.start (K := K) (F := F) (H := H) (N := N) r)
      unfold startR at h1
      rw [List.getElem?_append] at h1
      split at h1
      · rw [List.getElem?_map] at h1
        cases e : ds[i]? with
        | none => rw [e] at h1; cases h1
        | some d => rw [e] at h1; cases h1
      · rw [List.getElem?_replicate] at h1
        split at h1 <;> cases h1
    · unfold runB at h
      cases e : s (startR N.length ds) with
      | nx ρ => rw [e] at h; exact fun σ F' H' g _ => h .non F' H' g.nx .non
      | rt d => rw [e] at h; exact fun v F' H' nx rv => h v F' H' nx rv
      | ex m ρ => rw [e] at h; exact fun σ F' H' g _ => h F' H' g.nx
      | bk ρ => rw [e] at h; exact h.elim
      | ct ρ => rw [e] at h; exact h.elim
      | bad => rw [e] at h; exact h.elim
section
variable {X : Cx} {T : List (Addr × Str)} {W : WX} {F0 H0 : Hp}
theorem call_to {K : PySem.W.Frag} {n : Nat} {den : List D → Res D} {f : Rho → Res (List D)} {σ : L2.St} {H : Hp} {Q : VK} (h : tE K T W (callD n den f) σ H Q) : tCallS (spD K T n den) (WE W) (tA K T W f) σ H Q := by
  obtain ⟨ρ, F, a, h⟩ := h
  refine ⟨ρ, F, a, (aft.bind (R := RpAll K) h).imp fun d _ v F1 H1 _ _ q => ?_⟩
  obtain ⟨b, F2, _, nx, rv, q⟩ := q
  have q : aft (Rp K) K T W σ F2 H1 Q (if b.length = n then den b else .bad) := q
  split at q
  · rename_i hl
    refine ⟨F2, b, nx.z, nx.tab a.t, rv, hl, ?_⟩
    cases e : den b with
    | ok d => rw [e] at q; exact q
    | ex m => rw [e] at q; exact q
    | bad => rw [e] at q; exact q.elim
  · exact q.elim
theorem e_call {j k n : Nat} {x : Str} {den : List D → Res D} {e : Expr} {es : List Expr} {p pos : Pos} {f : Rho → Res (List D)} (O : OkD X.prog X.w X.K X.mg X.base T j x n den) (hr : Room k X.A) (tk : Takes X W) (hg : Gl X x) (ha : DA X T W (e :: es) f) (hj : j ≤ k := by decide)
    (hdb : (x == ("__debug__" : Str)) = false := by decide) (he : starEach (e :: es) X.env = (false, eval e X.env) :: starEach es X.env := by rfl) (hpl : (backTo pos (starEach es X.env)).any (·.1) = false := by rfl) :
    DE X T W (.Call (.Name x p) (e :: es) [] pos) (callD n den f) := by
  obtain ⟨fd, ps, G, b⟩ := O.ex
  exact (pe_callS (E := WE W) G (hr.mono hj) hg O.mg O.kp b (fun σ => passAt tk σ) ha hdb he hpl).to fun _ _ _ h => call_to h
/-- what is known of an own error class -/
structure ExcN (K : PySem.W.Frag) (mg : Str → Option Value) (x : Str) : Prop where
  e : PySem.W.excIn K (He.ga K x) He.veBase "ValueError.__new__" = true
  k : PySem.W.keepIn K (.ref (He.ga K x)) = true
  b : PySem.W.subIn K (.ref (He.ga K x)) (.type "BaseException") = some true
  t : PySem.W.typeIn K (.ref (He.ga K x)) = some (.type "type")
  g : mg x = some (.ref (He.ga K x))
def sraise (x : Str) : Rho → SR := fun ρ => .ex x ρ
theorem s_raise {x m : Str} {j : Nat} {p p2 pos pos2 : Pos} (N : ExcN X.K X.mg x) (hc : X.calm = true) (tk : Takes X W) (hg : Gl X x) (hdb : (x == ("__debug__" : Str)) = false := by decide) : DS X T W F0 H0 (.Raise (some (.Call (.Name x p) [.Constant (.str m) j p2] [] pos)) none pos2) (sraise x) :=
  (ps_raise hc tk (pmk_own PySem.F.excBase_ValueError N.e N.g N.k (raises_own N.b N.t) hg hdb)).to fun Z σ H ⟨ρ, F, g, h⟩ => h σ F H g (Sub.refl F)
end
end DN
namespace DN
open PySem PySem.Spec PyProof.Rows L2
open LamX (Tabs ExtN)

/-! ### the module's names -/
section
variable {X : Cx} {T : List (Addr × Str)} {W : WX}
theorem e_gint {x : Str} {i : Int} {pos : Pos} (h : ∃ t, X.mg x = some (.int i t)) (hg : Gl X x) (hd : (x == ("__debug__" : Str)) = false := by decide) : DE X T W (.Name x pos) (con (.int i)) := by
  obtain ⟨t, h⟩ := h
  exact e_c (pe_glob (v := .int i) hg h ⟨t, rfl⟩ hd) fun _ => .int i
theorem e_ty {x : Str} {n : String} {pos : Pos} (hm : X.mg x = none) (hv : bootBuiltins x = some (.type n)) (hg : Gl X x) (hn : x ≠ "__name__" := by decide) (hd : (x == ("__debug__" : Str)) = false := by decide) : DE X T W (.Name x pos) (con (.ty n)) :=
  e_c (pe_bltn (v := .ty n) hg hm hv rfl hn hd) fun F => .ty n
end
theorem bt_len : bootBuiltins "len" = some (.builtin "len") := by decide +kernel
theorem bt_abs : bootBuiltins "abs" = some (.builtin "abs") := by decide +kernel
theorem bt_max : bootBuiltins "max" = some (.builtin "max") := by decide +kernel
theorem bt_isinstance : bootBuiltins "isinstance" = some (.builtin "isinstance") := by decide +kernel
theorem bt_int : bootBuiltins "int" = some (.type "int") := by decide +kernel
theorem bt_str : bootBuiltins "str" = some (.type "str") := by decide +kernel
theorem bt_bool : bootBuiltins "bool" = some (.type "bool") := by decide +kernel
theorem bt_tuple : bootBuiltins "tuple" = some (.type "tuple") := by decide +kernel
/-! ### the end -/
theorem start_arr {K : PySem.W.Frag} {H : Hp} {a : Addr} {ns : List Int} (h : SqL K H a (ns.map V.int)) : ∃ F, Fz F H ∧ Rp K F (.ref a) (.arr ns) := by
  rcases h with (h | ⟨o, h⟩) | h
  · refine ⟨fun b => if b = a then some (.lst (ns.map V.int)) else none, ⟨fun b o e => ?_, fun b ps e => ?_⟩, .arr (.inl (.inl (if_pos rfl)))⟩
    · by_cases hb : b = a
      · rw [if_pos hb] at e; rw [hb, h]; exact e
      · rw [if_neg hb] at e; cases e
    · by_cases hb : b = a
      · rw [if_pos hb] at e; cases e
      · rw [if_neg hb] at e; cases e
  · refine ⟨fun b => if b = a then some (.frz o (.lst (ns.map V.int))) else none, ⟨fun b o e => ?_, fun b ps e => ?_⟩, .arr (.inl (.inr ⟨o, if_pos rfl⟩))⟩
    · by_cases hb : b = a
      · rw [if_pos hb] at e; rw [hb, h]; exact e
      · rw [if_neg hb] at e; cases e
    · by_cases hb : b = a
      · rw [if_pos hb] at e; cases e
      · rw [if_neg hb] at e; cases e
  · exact ⟨fun _ => none, ⟨(fun b o e => nomatch e), (fun b ps e => nomatch e)⟩, .arr (.inr h)⟩
theorem law_sp {K : PySem.W.Frag} {T : List (Addr × Str)} {H : Hp} {a : Addr} {ns : List Int} {den : List D → Res D} (hT : Tabs T H) (h : SqL K H a (ns.map V.int)) (hd : den [.arr ns] = .ok (.bl true)) : spD K T 1 den [.ref a] H (fun v _ => v = .bl true) fun _ _ _ => False := by
  obtain ⟨F, z, r⟩ := start_arr h
  refine ⟨F, [.arr ns], z, hT, .cons r .nil, rfl, ?_⟩
  rw [hd]
  intro v F' H' n rv
  cases rv
  rfl
theorem cx_false {P : Program} {w : World} {l : List Env} {H : Hp} {s : Shared} {e : Value} {s' : Shared} (h : L2.CX P w l H s (fun _ _ _ => False) e s') : False := by
  obtain ⟨_, _, _, _, _, _, _, _, _, _, _, _, z⟩ := h
  exact z.elim
end DN
namespace HT
open PySem PyProof.Rows
section
variable {prog : Program} {w : World} {A : Around} {E : Value → Shared → Prop} {s : Shared}
end
end HT
namespace DN
open PySem PySem.Spec PyProof.Rows L2
open LamX (Tabs ExtN)
section
variable {X : Cx}
end
theorem _root_.L2.PE.or {X : Cx} {e : Expr} {t u : TE} (h : PE X e t) (h2 : PE X e u) : PE X e (fun σ H Q => t σ H Q ∨ u σ H Q) := ⟨fun pins s σ H Q I q => q.elim (h.run pins s σ H Q I) (h2.run pins s σ H Q I)⟩
section
variable {X : Cx} {T : List (Addr × Str)} {W : WX}
end
end DN
namespace DN
open PySem PySem.Spec PyProof.Rows L2

/-! ### evaluating functions of data -/
def app2 (G : D → D → Option D) : Res D → Res D → Res D
  | .ok a, .ok b => ofO (G a b)
  | .ok _, .ex n => .ex n
  | .ok _, .bad => .bad
  | .ex n, _ => .ex n
  | .bad, _ => .bad
def app1 (G : D → Option D) (r : Res D) : Res D := r.bind fun a => ofO (G a)
def appL (G : List D → Option D) (r : Res (List D)) : Res D := r.bind fun a => ofO (G a)
def consR : Res D → Res (List D) → Res (List D)
  | .ok a, .ok b => .ok (a :: b)
  | .ok _, .ex n => .ex n
  | .ok _, .bad => .bad
  | .ex n, _ => .ex n
  | .bad, _ => .bad
def callR (n : Nat) (den : List D → Res D) (r : Res (List D)) : Res D := r.bind fun ds => if ds.length = n then den ds else .bad
def tstR (r : Res D) : Res Bool := r.bind ans
def seqR (r : SR) (t : Rho → SR) : SR := match r with
  | .nx ρ => t ρ
  | r => r
def retR (r : Res D) (ρ : Rho) : SR := bindS r ρ .rt
def asgR (r : Res D) (ρ : Rho) (g : Tg) : SR := bindS r ρ fun d => match g ρ d with
  | some ρ' => .nx ρ'
  | none => .bad
def ifR (r : Res Bool) (s t : Rho → SR) (ρ : Rho) : SR := bindS r ρ fun b => if b = true then s ρ else t ρ
def finR : SR → Res D
  | .nx _ => .ok .non
  | .rt d => .ok d
  | .ex m _ => .ex m
  | _ => .bad
def andR (r : Res Bool) (g : Rho → Res Bool) (ρ : Rho) : Res Bool := r.bind fun b => if b = true then g ρ else .ok false
def orR (r : Res Bool) (g : Rho → Res Bool) (ρ : Rho) : Res Bool := r.bind fun b => if b = true then .ok true else g ρ
def notR (r : Res Bool) : Res Bool := r.bind fun b => .ok (!b)
def andER (r : Res D) (g : Rho → Res D) (ρ : Rho) : Res D := r.bind fun d => (ans d).bind fun b => if b = true then g ρ else .ok (.bl false)
def orER (r : Res D) (g : Rho → Res D) (ρ : Rho) : Res D := r.bind fun d => (ans d).bind fun b => if b = true then .ok (.bl true) else g ρ
def notER (r : Res D) : Res D := r.bind fun d => (ans d).bind fun b => .ok (.bl (!b))
def mkTR (r : Res (List D)) : Res D := r.bind fun ds => if ds.length ≤ sizeLine then .ok (.tup ds) else .bad
def mkLR (r : Res (List D)) : Res D := r.bind fun ds => if ds.length ≤ sizeLine then .ok (.lst ds) else .bad
def slcR (r : Res D) (lo hi : Res (Option Int)) : Res D := r.bind fun d => lo.bind fun lo => hi.bind fun hi => ofO (slD d lo hi)
def psmR (r : Res D) : Res (Option Int) := r.bind intO
def forR (r : Res (List D)) (g : Tg) (s : Rho → SR) (ρ : Rho) : SR := bindS r ρ fun ds => loopD g s ds ρ
def chnR (G G' : D → D → Option D) (a b c : Res D) : Res D := a.bind fun d => b.bind fun e => (ofO (G d e)).bind fun z => (ans z).bind fun k => if k = true then c.bind fun c => ofO (G' e c) else .ok (.bl false)
theorem runB_eq {n : Nat} {g : Rho → SR} {ds : List D} {ρ : Rho} (h : startR n ds = ρ) : runB n g ds = finR (g ρ) := by
  subst h
  unfold runB finR
  cases g (startR n ds) <;> rfl
section
variable {ρ : Rho}
theorem bin_def {G f g} : bop G f g ρ = app2 G (f ρ) (g ρ) := by
  unfold bop app2
  cases f ρ <;> cases g ρ <;> rfl
theorem una_def {G f} : una G f ρ = app1 G (f ρ) := rfl
theorem cal_def {G f} : cal G f ρ = appL G (f ρ) := rfl
theorem acons_def {f g} : acons f g ρ = consR (f ρ) (g ρ) := by
  unfold acons consR
  cases f ρ <;> cases g ρ <;> rfl
theorem anil_def : anil ρ = .ok [] := rfl
theorem con_def {d} : con d ρ = .ok d := rfl
theorem callD_def {n den f} : callD n den f ρ = callR n den (f ρ) := rfl
theorem tst_def {f} : tst f ρ = tstR (f ρ) := rfl
theorem sseq_def {s t} : sseq s t ρ = seqR (s ρ) t := by
  unfold sseq seqR
  cases s ρ <;> rfl
theorem sret_def {f} : sret f ρ = retR (f ρ) ρ := rfl
theorem sasg_def {f g} : sasg f g ρ = asgR (f ρ) ρ g := rfl
theorem sif_def {c s t} : sif c s t ρ = ifR (c ρ) s t ρ := rfl
theorem sskip_def : sskip ρ = .nx ρ := rfl
theorem sraise_def {x} : sraise x ρ = .ex x ρ := rfl
theorem andQ_def {f g} : andQ f g ρ = andR (f ρ) g ρ := rfl
theorem orQ_def {f g} : orQ f g ρ = orR (f ρ) g ρ := rfl
theorem notQ_def {f} : notQ f ρ = notR (f ρ) := rfl
theorem andE_def {f g} : andE f g ρ = andER (f ρ) g ρ := rfl
theorem orE_def {f g} : orE f g ρ = orER (f ρ) g ρ := rfl
theorem notE_def {f} : notE f ρ = notER (f ρ) := rfl
theorem mkT_def {f} : mkT f ρ = mkTR (f ρ) := rfl
theorem mkL_def {f} : mkL f ρ = mkLR (f ρ) := rfl
theorem slc_def {f g h} : slc f g h ρ = slcR (f ρ) (g ρ) (h ρ) := rfl
theorem psm_def {f} : psm f ρ = psmR (f ρ) := rfl
theorem pno_def : pno ρ = .ok none := rfl
theorem sfor_def {f g s} : sfor f g s ρ = forR (f ρ) g s ρ := rfl
theorem chn_def {G G' f g h} : chn G G' f g h ρ = chnR G G' (f ρ) (g ρ) (h ρ) := rfl
theorem var_zero {d r} : var 0 (.z d :: r) = .ok d := rfl
theorem var_succ {n x r} : var (n + 1) (x :: r) = var n r := rfl
theorem app2_ok {G a b} : app2 G (.ok a) (.ok b) = ofO (G a b) := rfl
theorem app1_ok {G a} : app1 G (.ok a) = ofO (G a) := rfl
theorem appL_ok {G a} : appL G (.ok a) = ofO (G a) := rfl
theorem consR_ok {a b} : consR (.ok a) (.ok b) = .ok (a :: b) := rfl
theorem ofO_some {α} {a : α} : ofO (some a) = .ok a := rfl
theorem call0 {den} : callR 0 den (.ok []) = den [] := rfl
theorem call1 {den a} : callR 1 den (.ok [a]) = den [a] := rfl
theorem call2 {den a b} : callR 2 den (.ok [a, b]) = den [a, b] := rfl
theorem call3 {den a b c} : callR 3 den (.ok [a, b, c]) = den [a, b, c] := rfl
theorem call4 {den a b c d} : callR 4 den (.ok [a, b, c, d]) = den [a, b, c, d] := rfl
theorem call5 {den a b c d e} : callR 5 den (.ok [a, b, c, d, e]) = den [a, b, c, d, e] := rfl
theorem tstR_ok {b} : tstR (.ok (.bl b)) = .ok b := rfl
theorem seqR_nx {t} : seqR (.nx ρ) t = t ρ := rfl
theorem seqR_rt {d t} : seqR (.rt d) t = .rt d := rfl
theorem seqR_ex {n t} : seqR (.ex n ρ) t = .ex n ρ := rfl
theorem retR_ok {d} : retR (.ok d) ρ = .rt d := rfl
theorem retR_ex {n} : retR (.ex n) ρ = .ex n ρ := rfl
theorem asgR_n {d i} : asgR (.ok d) ρ (gn i) = .nx (ρ.set i (.z d)) := rfl
theorem asgR_ex {n g} : asgR (.ex n) ρ g = .ex n ρ := rfl
theorem asgR_2 {a b i j} : asgR (.ok (.tup [a, b])) ρ (gt 2 (gsc (gn i) (gsc (gn j) gsn))) = .nx ((ρ.set i (.z a)).set j (.z b)) := rfl
theorem asgR_2L {a b i j} : asgR (.ok (.lst [a, b])) ρ (gt 2 (gsc (gn i) (gsc (gn j) gsn))) = .nx ((ρ.set i (.z a)).set j (.z b)) := rfl
theorem asgR_3 {a b c i j k} : asgR (.ok (.tup [a, b, c])) ρ (gt 3 (gsc (gn i) (gsc (gn j) (gsc (gn k) gsn)))) = .nx (((ρ.set i (.z a)).set j (.z b)).set k (.z c)) := rfl
theorem ifR_t {s t} : ifR (.ok true) s t ρ = s ρ := rfl
theorem ifR_f {s t} : ifR (.ok false) s t ρ = t ρ := rfl
theorem finR_rt {d} : finR (.rt d) = .ok d := rfl
theorem finR_nx : finR (.nx ρ) = .ok .non := rfl
theorem finR_ex {n} : finR (.ex n ρ) = .ex n := rfl
theorem andR_t {g} : andR (.ok true) g ρ = g ρ := rfl
theorem andR_f {g} : andR (.ok false) g ρ = .ok false := rfl
theorem orR_t {g} : orR (.ok true) g ρ = .ok true := rfl
theorem orR_f {g} : orR (.ok false) g ρ = g ρ := rfl
theorem notR_ok {b} : notR (.ok b) = .ok (!b) := rfl
theorem andER_t {g} : andER (.ok (.bl true)) g ρ = g ρ := rfl
theorem andER_f {g} : andER (.ok (.bl false)) g ρ = .ok (.bl false) := rfl
theorem orER_t {g} : orER (.ok (.bl true)) g ρ = .ok (.bl true) := rfl
theorem orER_f {g} : orER (.ok (.bl false)) g ρ = g ρ := rfl
theorem notER_ok {b} : notER (.ok (.bl b)) = .ok (.bl (!b)) := rfl
theorem psmR_ok {i} : psmR (.ok (.int i)) = .ok (some i) := rfl
theorem slcR_ok {d lo hi} : slcR (.ok d) (.ok lo) (.ok hi) = ofO (slD d lo hi) := rfl
theorem while_t {c s n ρ'} (h : c ρ = .ok true) (h2 : s ρ = .nx ρ') : whileD c s (n + 1) ρ = whileD c s n ρ' := by
  show bindS (c ρ) ρ (fun b => if b = true then (match s ρ with | .nx ρ' => whileD c s n ρ' | .ct ρ' => whileD c s n ρ' | .bk ρ' => .nx ρ' | r => r) else .nx ρ) = _
  rw [h, h2]
  rfl
theorem while_f {c s n} (h : c ρ = .ok false) : whileD c s (n + 1) ρ = .nx ρ := by
  show bindS (c ρ) ρ (fun b => if b = true then (match s ρ with | .nx ρ' => whileD c s n ρ' | .ct ρ' => whileD c s n ρ' | .bk ρ' => .nx ρ' | r => r) else .nx ρ) = _
  rw [h]
  rfl
theorem loop_nil {g s} : loopD g s [] ρ = .nx ρ := rfl
theorem loop_cons {g s d ds ρ1 ρ'} (h : g ρ d = some ρ1) (h2 : s ρ1 = .nx ρ') : loopD g s (d :: ds) ρ = loopD g s ds ρ' := by
  show (match g ρ d with | none => SR.bad | some ρ1 => match s ρ1 with | .nx ρ' => loopD g s ds ρ' | .ct ρ' => loopD g s ds ρ' | .bk ρ' => .nx ρ' | r => r) = _
  rw [h]
  show (match s ρ1 with | .nx ρ' => loopD g s ds ρ' | .ct ρ' => loopD g s ds ρ' | .bk ρ' => .nx ρ' | r => r) = _
  rw [h2]
theorem forR_ok {ds g s} : forR (.ok ds) g s ρ = loopD g s ds ρ := rfl
theorem mkTR_ok {ds : List D} (h : ds.length ≤ 1000000) : mkTR (.ok ds) = .ok (.tup ds) := by
  show (if ds.length ≤ sizeLine then Res.ok (D.tup ds) else .bad) = _
  rw [if_pos (by rw [sizeLine_eq]; omega)]
theorem mkLR_ok {ds : List D} (h : ds.length ≤ 1000000) : mkLR (.ok ds) = .ok (.lst ds) := by
  show (if ds.length ≤ sizeLine then Res.ok (D.lst ds) else .bad) = _
  rw [if_pos (by rw [sizeLine_eq]; omega)]
theorem chn_le {i j k} : chnR leD leD (.ok (.int i)) (.ok (.int j)) (.ok (.int k)) = .ok (.bl (decide (i ≤ j) && decide (j ≤ k))) := by
  show (if decide (i ≤ j) = true then Res.ok (D.bl (decide (j ≤ k))) else .ok (.bl false)) = _
  cases decide (i ≤ j) <;> rfl
theorem chn_lt {i j k} : chnR leD ltD (.ok (.int i)) (.ok (.int j)) (.ok (.int k)) = .ok (.bl (decide (i ≤ j) && decide (j < k))) := by
  show (if decide (i ≤ j) = true then Res.ok (D.bl (decide (j < k))) else .ok (.bl false)) = _
  cases decide (i ≤ j) <;> rfl
/-! the operators on what they are for -/
theorem add_ii {i j} : addD (.int i) (.int j) = some (.int (i + j)) := rfl
theorem sub_ii {i j} : subD (.int i) (.int j) = some (.int (i - j)) := rfl
theorem neg_i {i} : negD (.int i) = some (.int (-i)) := rfl
theorem lt_ii {i j} : ltD (.int i) (.int j) = some (.bl (decide (i < j))) := rfl
theorem le_ii {i j} : leD (.int i) (.int j) = some (.bl (decide (i ≤ j))) := rfl
theorem gt_ii {i j} : gtD (.int i) (.int j) = some (.bl (decide (j < i))) := rfl
theorem ge_ii {i j} : geD (.int i) (.int j) = some (.bl (decide (j ≤ i))) := rfl
theorem eq_ii {i j} : eqD (.int i) (.int j) = some (.bl (i == j)) := by simp [eqD, eqOk, flatD, eqd]
theorem ne_ii {i j} : neD (.int i) (.int j) = some (.bl (!(i == j))) := by simp [neD, eqOk, flatD, eqd]
theorem eq_ss {i j} : eqD (.str i) (.str j) = some (.bl (i == j)) := by simp [eqD, eqOk, flatD, eqd]
theorem ne_ss {i j} : neD (.str i) (.str j) = some (.bl (!(i == j))) := by simp [neD, eqOk, flatD, eqd]
theorem eq_bb {i j} : eqD (.bl i) (.bl j) = some (.bl (i == j)) := by simp [eqD, eqOk, flatD, eqd]
theorem ne_bb {i j} : neD (.bl i) (.bl j) = some (.bl (!(i == j))) := by simp [neD, eqOk, flatD, eqd]
theorem mul_l {i j : Int} (h : -(2 ^ 64) < i ∧ i < 2 ^ 64) : mulD (.int i) (.int j) = some (.int (i * j)) := by
  show (if CMulD i j then some (D.int (i * j)) else none) = _
  rw [if_pos (.inl (.inl h))]
theorem mul_r {i j : Int} (h : -(2 ^ 64) < j ∧ j < 2 ^ 64) : mulD (.int i) (.int j) = some (.int (i * j)) := by
  show (if CMulD i j then some (D.int (i * j)) else none) = _
  rw [if_pos (.inl (.inr h))]
theorem log2_lt {n k : Nat} (h : n < 2 ^ k) (hk : 0 < k) : n.log2 < k := by
  by_cases h0 : n = 0
  · subst h0; simpa using hk
  · exact (Nat.log2_lt h0).mpr h
theorem mul_w {i j : Int} (h1 : i.natAbs < 2 ^ 100000) (h2 : j.natAbs < 2 ^ 100000) : mulD (.int i) (.int j) = some (.int (i * j)) := by
  show (if CMulD i j then some (D.int (i * j)) else none) = _
  have a := log2_lt h1 (by decide)
  have b := log2_lt h2 (by decide)
  rw [if_pos (.inr (show i.natAbs.log2 + j.natAbs.log2 < 1000000 by omega))]
theorem div_s {i j : Int} (h : 0 < j ∧ j < 2 ^ 64) : divD (.int i) (.int j) = some (.int (i / j)) := by
  show (if CDivW i j then some (D.int (i / j)) else none) = _
  have a : j.natAbs.log2 < 64 := log2_lt (by omega) (by decide)
  rw [if_pos ⟨h.1, by omega⟩]
theorem div_w {i j : Int} (h : 0 < j) (h2 : j.natAbs < 2 ^ 8000) : divD (.int i) (.int j) = some (.int (i / j)) := by
  show (if CDivW i j then some (D.int (i / j)) else none) = _
  have a := log2_lt h2 (by decide)
  rw [if_pos ⟨h, by omega⟩]
theorem mod_p {i j : Int} (h : 0 < j) : modD (.int i) (.int j) = some (.int (i % j)) := by
  show (if 0 < j then some (D.int (i % j)) else none) = _
  rw [if_pos h]
theorem ix_t {xs : List D} {i : Int} (h : 0 ≤ i ∧ i < xs.length) : ixD (.tup xs) (.int i) = some (xs.getD i.toNat .non) := by
  show atI xs i = _
  unfold atI ixN
  rw [if_pos h.1, if_pos h.2]
  show xs[i.toNat]? = _
  rw [List.getElem?_eq_getElem (by omega), List.getD_eq_getElem?_getD, List.getElem?_eq_getElem (by omega)]
  rfl
theorem ix_l {xs : List D} {i : Int} (h : 0 ≤ i ∧ i < xs.length) : ixD (.lst xs) (.int i) = some (xs.getD i.toNat .non) := by
  show atI xs i = _
  unfold atI ixN
  rw [if_pos h.1, if_pos h.2]
  show xs[i.toNat]? = _
  rw [List.getElem?_eq_getElem (by omega), List.getD_eq_getElem?_getD, List.getElem?_eq_getElem (by omega)]
  rfl
theorem ix_tm {xs : List D} {i m : Int} (h : 0 < m ∧ m ≤ xs.length) : ixD (.tup xs) (.int (i % m)) = some (xs.getD (i % m).toNat .non) := ix_t ⟨Int.emod_nonneg _ (by omega), Int.lt_of_lt_of_le (Int.emod_lt_of_pos _ h.1) h.2⟩
theorem ix_lm {xs : List D} {i m : Int} (h : 0 < m ∧ m ≤ xs.length) : ixD (.lst xs) (.int (i % m)) = some (xs.getD (i % m).toNat .non) := ix_l ⟨Int.emod_nonneg _ (by omega), Int.lt_of_lt_of_le (Int.emod_lt_of_pos _ h.1) h.2⟩
theorem ix_t0 {a : D} {r : List D} : ixD (.tup (a :: r)) (.int 0) = some a := by
  show atI (a :: r) 0 = _
  unfold atI ixN
  rw [if_pos (by decide), if_pos (by simp only [List.length_cons]; omega)]
  rfl
theorem ix_t1 {a b : D} {r : List D} : ixD (.tup (a :: b :: r)) (.int 1) = some b := by
  show atI (a :: b :: r) 1 = _
  unfold atI ixN
  rw [if_pos (by decide), if_pos (by simp only [List.length_cons]; omega)]
  rfl
theorem ix_t2 {a b c : D} {r : List D} : ixD (.tup (a :: b :: c :: r)) (.int 2) = some c := by
  show atI (a :: b :: c :: r) 2 = _
  unfold atI ixN
  rw [if_pos (by decide), if_pos (by simp only [List.length_cons]; omega)]
  rfl
theorem ix_t3 {a b c d : D} {r : List D} : ixD (.tup (a :: b :: c :: d :: r)) (.int 3) = some d := by
  show atI (a :: b :: c :: d :: r) 3 = _
  unfold atI ixN
  rw [if_pos (by decide), if_pos (by simp only [List.length_cons]; omega)]
  rfl
theorem ix_t4 {a b c d e : D} {r : List D} : ixD (.tup (a :: b :: c :: d :: e :: r)) (.int 4) = some e := by
  show atI (a :: b :: c :: d :: e :: r) 4 = _
  unfold atI ixN
  rw [if_pos (by decide), if_pos (by simp only [List.length_cons]; omega)]
  rfl
theorem ix_t5 {a b c d e f : D} {r : List D} : ixD (.tup (a :: b :: c :: d :: e :: f :: r)) (.int 5) = some f := by
  show atI (a :: b :: c :: d :: e :: f :: r) 5 = _
  unfold atI ixN
  rw [if_pos (by decide), if_pos (by simp only [List.length_cons]; omega)]
  rfl
theorem ix_t6 {a b c d e f g : D} {r : List D} : ixD (.tup (a :: b :: c :: d :: e :: f :: g :: r)) (.int 6) = some g := by
  show atI (a :: b :: c :: d :: e :: f :: g :: r) 6 = _
  unfold atI ixN
  rw [if_pos (by decide), if_pos (by simp only [List.length_cons]; omega)]
  rfl
theorem ix_t7 {a b c d e f g h : D} {r : List D} : ixD (.tup (a :: b :: c :: d :: e :: f :: g :: h :: r)) (.int 7) = some h := by
  show atI (a :: b :: c :: d :: e :: f :: g :: h :: r) 7 = _
  unfold atI ixN
  rw [if_pos (by decide), if_pos (by simp only [List.length_cons]; omega)]
  rfl
theorem ix_l0 {a : D} {r : List D} : ixD (.lst (a :: r)) (.int 0) = some a := by
  show atI (a :: r) 0 = _
  unfold atI ixN
  rw [if_pos (by decide), if_pos (by simp only [List.length_cons]; omega)]
  rfl
theorem ix_l1 {a b : D} {r : List D} : ixD (.lst (a :: b :: r)) (.int 1) = some b := by
  show atI (a :: b :: r) 1 = _
  unfold atI ixN
  rw [if_pos (by decide), if_pos (by simp only [List.length_cons]; omega)]
  rfl
theorem ix_l2 {a b c : D} {r : List D} : ixD (.lst (a :: b :: c :: r)) (.int 2) = some c := by
  show atI (a :: b :: c :: r) 2 = _
  unfold atI ixN
  rw [if_pos (by decide), if_pos (by simp only [List.length_cons]; omega)]
  rfl
theorem ix_l3 {a b c d : D} {r : List D} : ixD (.lst (a :: b :: c :: d :: r)) (.int 3) = some d := by
  show atI (a :: b :: c :: d :: r) 3 = _
  unfold atI ixN
  rw [if_pos (by decide), if_pos (by simp only [List.length_cons]; omega)]
  rfl
theorem ix_l4 {a b c d e : D} {r : List D} : ixD (.lst (a :: b :: c :: d :: e :: r)) (.int 4) = some e := by
  show atI (a :: b :: c :: d :: e :: r) 4 = _
  unfold atI ixN
  rw [if_pos (by decide), if_pos (by simp only [List.length_cons]; omega)]
  rfl
theorem ix_l5 {a b c d e f : D} {r : List D} : ixD (.lst (a :: b :: c :: d :: e :: f :: r)) (.int 5) = some f := by
  show atI (a :: b :: c :: d :: e :: f :: r) 5 = _
  unfold atI ixN
  rw [if_pos (by decide), if_pos (by simp only [List.length_cons]; omega)]
  rfl
theorem ix_l6 {a b c d e f g : D} {r : List D} : ixD (.lst (a :: b :: c :: d :: e :: f :: g :: r)) (.int 6) = some g := by
  show atI (a :: b :: c :: d :: e :: f :: g :: r) 6 = _
  unfold atI ixN
  rw [if_pos (by decide), if_pos (by simp only [List.length_cons]; omega)]
  rfl
theorem ix_l7 {a b c d e f g h : D} {r : List D} : ixD (.lst (a :: b :: c :: d :: e :: f :: g :: h :: r)) (.int 7) = some h := by
  show atI (a :: b :: c :: d :: e :: f :: g :: h :: r) 7 = _
  unfold atI ixN
  rw [if_pos (by decide), if_pos (by simp only [List.length_cons]; omega)]
  rfl
theorem len_t {xs : List D} : lenD [.tup xs] = some (.int xs.length) := rfl
theorem len_l {xs : List D} : lenD [.lst xs] = some (.int xs.length) := rfl
theorem len_a {xs : List Int} : lenD [.arr xs] = some (.int xs.length) := rfl
theorem abs_i {i : Int} : absD [.int i] = some (.int (if i < 0 then -i else i)) := rfl
theorem max_ii {i j : Int} : maxD [.int i, .int j] = some (.int (if j > i then j else i)) := rfl
theorem min_ii {i j : Int} : minD [.int i, .int j] = some (.int (if j < i then j else i)) := rfl
theorem int_i {i : Int} : intD [.int i] = some (.int i) := rfl
theorem int_b {b : Bool} : intD [.bl b] = some (.int (if b then 1 else 0)) := rfl
theorem int_t : intD [.bl true] = some (.int 1) := rfl
theorem int_f : intD [.bl false] = some (.int 0) := rfl
theorem str_i {i : Int} (h : i.natAbs < 2 ^ 1900) : strD [.int i] = some (.str (toString i)) := by
  show (if i.natAbs.log2 < 1920 then some (D.str (toString i)) else none) = _
  have a := log2_lt h (by decide)
  rw [if_pos (by omega)]
theorem len_s {x : Str} (h : x.length ≤ 1000000) : lenD [.str x] = some (.int x.length) := by
  show (if x.length ≤ sizeLine then some (D.int x.length) else none) = _
  rw [if_pos (by rw [sizeLine_eq]; omega)]
theorem isi_i {i n b} (h : kitB "int" n = some b) : isiD [.int i, .ty n] = some (.bl b) := by simp [isiD, tyD, h]
theorem isi_t {i n b} (h : kitB "tuple" n = some b) : isiD [.tup i, .ty n] = some (.bl b) := by simp [isiD, tyD, h]
end
end DN
namespace DN
open PySem PySem.Spec PyProof.Rows L2
instance : Decidable (CPow i j) := by unfold CPow; infer_instance
end DN
namespace DN
open PySem PySem.Spec PyProof.Rows L2
open LamX (Tabs ExtN)

/-! ### methods of texts -/
section
variable {X : Cx} {T : List (Addr × Str)} {W : WX}
end
/-! evaluating -/
end DN
namespace DN
open PySem PySem.Spec PyProof.Rows L2
open LamX (Tabs ExtN CodeO GivesTo tLam LamS TabB lamCx lamEnv)

/-! ### list.count, flat items -/
section
variable {X : Cx}
def rCountF (K : PySem.W.Frag) : V → List V → Hp → VK → Prop := fun x xs H Q => ∃ (a : Addr) (ys : List V) (y : V), x = V.ref a ∧ xs = [y] ∧ SqL K H a ys ∧ flatV y = true ∧ ys.all flatV = true ∧ Q (.int ((ys.countP fun z => eqV z y : Nat) : Int)) H
theorem countU {y : V} : ∀ {ys : List V} {us : List Value}, Vals ys us → ys.all flatV = true → us.countP (eqU y) = ys.countP fun z => eqV z y
  | _, _, .nil, _ => rfl
  | z :: ys, u :: us, .cons r t, f => by
    rw [List.all_cons, Bool.and_eq_true] at f
    rw [List.countP_cons, List.countP_cons, countU t f.2, eqU_of r f.1]
theorem mt_countF : MtR X "list.count" (rCountF X.K) := by
  intro pins s σ H x xs v us Q I rx rxs h
  obtain ⟨a, ys, y, rfl, rfl, hs, fy, fys, q⟩ := h
  cases rx
  obtain ⟨u, rfl, ru⟩ := rxs.one
  obtain ⟨its, rv, ⟨⟨cls, dd, data, sl⟩, n, ho, hc, hdn, hd⟩, hlen⟩ := I.list hs
  simp only at hc hd
  subst hc hd
  refine call_meets PySem.F.slot_list_count ⟨_, ho, rfl⟩ PySem.F.entry_list_count (PySem.F.args_list_count_2 _ _)
    (SeqAt.list_countAt a its.toArray n dd sl u (eqU y)) ⟨ho, fun u' hu' => mem_eqAt ru fy rv fys u' (by simpa using hu'), ?_⟩
  have ec : its.toArray.toList.countP (eqU y) = ys.countP fun z => eqV z y := countU rv fys
  rw [ec]
  exact ⟨.int _, H, I.kept fun _ _ z => z, ⟨_, rfl⟩, q⟩
end

/-! ### told: what an own error is told as -/
def kindIx (n : Str) : Option Int :=
  if n = "TooGreat" then some 0 else if n = "NoText" then some 1 else if n = "NoDeed" then some 2 else if n = "NoKey" then some 3 else if n = "NoRoom" then some 4 else none
def toldR : Res D → Res D
  | .ok d => .ok (.tup [.str "told", d])
  | .ex n => (match kindIx n with
    | some k => .ok (.tup [.str "refused", .int k])
    | none => .bad)
  | .bad => .bad
def toldD (f : Rho → Res D) : Rho → Res D := fun ρ => toldR (f ρ)
def five : List Str := ["TooGreat", "NoText", "NoDeed", "NoKey", "NoRoom"]
/-- what is known of the five classes -/
structure ExK (K : PySem.W.Frag) (n : Str) : Prop where
  c : ExcC K (He.ga K n)
  m : PySem.W.exmOne K (.ref (He.ga K n)) (.ref (He.ga K "PileError")) = some true
  v : PySem.W.kitOne K (.ref (He.ga K n)) (.type "ValueError") = some true
  k : ∀ m ∈ five, PySem.W.kitOne K (.ref (He.ga K n)) (.ref (He.ga K m)) = some (decide (n = m))
def exKB (K : PySem.W.Frag) (n : Str) : Bool :=
  He.eqO (PySem.W.findIn K (.ref (He.ga K n)) "__getattribute__") (some (some (.builtin "BaseException.__getattribute__"))) &&
  (He.eqO (PySem.W.findIn K (.ref (He.ga K n)) "__getattr__") (some none) &&
  (decide (PySem.W.subIn K (.ref (He.ga K n)) (.type "BaseException") = some true) &&
  (PySem.W.hasDictIn K (He.ga K n) &&
  (He.eqO (PySem.W.findIn K (.ref (He.ga K n)) "__class__") (some (some (.builtin "object.__class__"))) &&
  (He.eqO (PySem.W.specialIn K (.builtin "object.__class__") "__get__") (some (some (.builtin "getset_descriptor.__get__"))) &&
  (decide (PySem.W.takesIn K (.builtin "object.__class__") = some true) &&
  (decide (PySem.W.mroIn K (He.ga K n) (.type "object") = some true) &&
  (decide (PySem.W.exmOne K (.ref (He.ga K n)) (.ref (He.ga K "PileError")) = some true) &&
  (decide (PySem.W.kitOne K (.ref (He.ga K n)) (.type "ValueError") = some true) &&
  five.all fun m => decide (PySem.W.kitOne K (.ref (He.ga K n)) (.ref (He.ga K m)) = some (decide (n = m))))))))))))
def toldB (K : PySem.W.Frag) : Bool := five.all fun n => exKB K n
theorem exKB_ok {K : PySem.W.Frag} {n : Str} (h : exKB K n = true) : ExK K n := by
  unfold exKB at h
  simp only [Bool.and_eq_true] at h
  obtain ⟨h1, h2, h3, h4, h5, h6, h7, h8, h9, h10, h11⟩ := h
  exact ⟨⟨He.eqO_ok h1, He.eqO_ok h2, of_decide_eq_true h3, h4, He.eqO_ok h5, He.eqO_ok h6, of_decide_eq_true h7, of_decide_eq_true h8⟩, of_decide_eq_true h9, of_decide_eq_true h10, fun m hm => of_decide_eq_true (List.all_eq_true.mp h11 m hm)⟩
theorem toldB_ok {K : PySem.W.Frag} (h : toldB K = true) : ∀ n ∈ five, ExK K n := fun n hn => exKB_ok (List.all_eq_true.mp h n hn)
theorem kindIx_mem {n : Str} {k : Int} (h : kindIx n = some k) : n ∈ five := by
  unfold kindIx at h
  unfold five
  split at h
  · rename_i e; subst e; simp
  · split at h
    · rename_i e; subst e; simp
    · split at h
      · rename_i e; subst e; simp
      · split at h
        · rename_i e; subst e; simp
        · split at h
          · rename_i e; subst e; simp
          · cases h
/-- what told's module must have -/
structure ToldC (K : PySem.W.Frag) (mg : Str → Option Value) : Prop where
  ex : ∀ n ∈ five, ExK K n
  g : ∀ n ∈ five, mg n = some (.ref (He.ga K n))
  p : mg "PileError" = some (.ref (He.ga K "PileError"))
  i : mg "isinstance" = none
  v : mg "ValueError" = none
/-- told's names -/
structure ToldS (sg : Scope) : Prop where
  l : ∀ n ∈ (["deed", "found", "e", "kinds"] : List Str), sg.names.lookup n = some .local
  g : ∀ n ∈ five, sg.names.lookup n = some .globalImplicit
  gp : sg.names.lookup ("PileError" : Str) = some .globalImplicit
  gi : sg.names.lookup ("isinstance" : Str) = some .globalImplicit
  gv : sg.names.lookup ("ValueError" : Str) = some .globalImplicit
theorem bt_ValueError : bootBuiltins "ValueError" = some (.type "ValueError") := by decide +kernel
def TTd (K : PySem.W.Frag) (T : List (Addr × Str)) : (XK → Hp → VK → Prop) → Hp → VK → Prop := fun tl H Q =>
  ∃ F r, Fz F H ∧ (∀ E H' F' Q', Nx T F H F' H' → aft (Rp K) K T (WofE E) [] F' H' Q' r → tl E H' Q') ∧ aft (Rp K) K T (fun _ _ _ _ => False) [] F H Q (toldR r)
theorem takes_len {X : Cx} {W : WX} (t : Takes X W) : Takes X (fun c d σ H => σ.length = X.N.length → W c d σ H) := fun u s' ⟨a, B, sI, pins, σ, H, cls, d, e, I, nb, up, sky, na, os, ag, w⟩ =>
  t u s' ⟨a, B, sI, pins, σ, H, cls, d, e, I, nb, up, sky, na, os, ag, w I.len⟩

section
variable {X : Cx} {T : List (Addr × Str)}
/-- the suite's reading, of an error of the class at D -/
def isR (K : PySem.W.Frag) (D a : Addr) (n : Str) : TE := tCB (rIsE K D a) (tCons (tVar 2) (tCons (tC (.ref (He.ga K n))) tNil))
def isV (K : PySem.W.Frag) (D a : Addr) : TE := tCB (rIsE K D a) (tCons (tVar 2) (tCons (tC (.ty "ValueError")) tNil))
def RS (K : PySem.W.Frag) (a D : Addr) : TS :=
  tSeq (tAsg (tLst (tCons (isR K D a "TooGreat") (tCons (isR K D a "NoText") (tCons (isR K D a "NoDeed") (tCons (isR K D a "NoKey") tNil))))) (gName 3))
  (tSeq (tDrop (tBM K "list" rAppend (tVar 3) (tCons (isR K D a "NoRoom") tNil)))
  (tSeq (tAsg (tTup (tCons (tC (.str "refused")) (tCons (tUn (rU fun i => .int (-i)) (tC (.int 1))) tNil))) (gName 1))
  (tIfS (tAnd (tB (isV K D a)) (tB (tEqI (tBM K "list" (rCountF K) (tVar 3) (tCons (tC (.bl true)) tNil)) (tC (.int 1))))) (tAsg (tTup (tCons (tC (.str "refused")) (tCons (tBM K "list" (rIndex K) (tVar 3) (tCons (tC (.bl true)) tNil)) tNil))) (gName 1)) tNext)))
theorem isR_run {K : PySem.W.Frag} {n m : Str} {a : Addr} {σ : L2.St} {H : Hp} {Q : VK} (E : ExK K n) (hm : m ∈ five) (h2 : σ[2]? = some (some (.ref a))) (hq : Q (.bl (decide (n = m))) H) : isR K (He.ga K n) a m σ H Q :=
  ⟨.ref a, h2, .ref (He.ga K m), .ref (He.ga K m), _, rfl, fun u r => r, E.k m hm, hq⟩
theorem isV_run {K : PySem.W.Frag} {n : Str} {a : Addr} {σ : L2.St} {H : Hp} {Q : VK} (E : ExK K n) (h2 : σ[2]? = some (some (.ref a))) (hq : Q (.bl true) H) : isV K (He.ga K n) a σ H Q :=
  ⟨.ref a, h2, .ty "ValueError", .type "ValueError", _, rfl, fun u r => r, E.v, hq⟩
theorem suite_run {K : PySem.W.Frag} {n : Str} {a : Addr} {σ : L2.St} {F H : Hp} {D : Ends} {b0 b1 b2 b3 b4 : Bool} {j : Nat} (E : ExK K n) (z : Fz F H) (hl : σ.length = 4) (h2 : σ[2]? = some (some (.ref a)))
    (e0 : decide (n = "TooGreat") = b0) (e1 : decide (n = "NoText") = b1) (e2 : decide (n = "NoDeed") = b2) (e3 : decide (n = "NoKey") = b3) (e4 : decide (n = "NoRoom") = b4)
    (hc : ([V.bl b0, .bl b1, .bl b2, .bl b3, .bl b4].countP fun z => eqV z (.bl true)) = 1) (hj : [V.bl b0, .bl b1, .bl b2, .bl b3, .bl b4][j]? = some (.bl true)) (hno : ∀ (m : Nat) (z' : V), m < j → [V.bl b0, .bl b1, .bl b2, .bl b3, .bl b4][m]? = some z' → eqV z' (.bl true) = false)
    (hk : ∀ σ' p F' H', Nx T F H F' H' → F' p = some (.tup [.str "refused", .int (j : Nat)]) → σ'.length = 4 → σ'[1]? = some (some (.ref p)) → D.nx σ' H') : RS K a (He.ga K n) D σ H := by
  have sl := sizeLine_eq
  refine isR_run E (by unfold five; simp) h2 (isR_run E (by unfold five; simp) h2 (isR_run E (by unfold five; simp) h2 (isR_run E (by unfold five; simp) h2 ⟨by simp; omega, fun p1 hp1 => ?_⟩)))
  rw [e0, e1, e2, e3]
  have g3 : (σ.set 3 (some (V.ref p1)))[3]? = some (some (.ref p1)) := by rw [List.getElem?_set]; simp [hl]
  have g2 : (σ.set 3 (some (V.ref p1)))[2]? = some (some (.ref a)) := by rw [List.getElem?_set]; simpa using h2
  refine ⟨.ref p1, g3, .inl ⟨rfl, _, .inl (.inl upd_same)⟩, isR_run E (by unfold five; simp) g2 ⟨p1, _, _, rfl, rfl, upd_same, by simp; omega, ?_⟩⟩
  rw [e4, upd_upd]
  have n1 : Nx T F H F (upd H p1 (.lst [V.bl b0, .bl b1, .bl b2, .bl b3, .bl b4])) := Nx.lay z hp1
  refine ⟨1, rfl, by simp; omega, fun p2 hp2 => ?_⟩
  have np : p1 ≠ p2 := fun e => by rw [← e, upd_same] at hp2; cases hp2
  have n2 := n1.trans (Nx.lay (T := T) (o := .tup [V.str "refused", V.int (-1)]) n1.z hp2)
  have k1 : (upd (upd H p1 (.lst [V.bl b0, .bl b1, .bl b2, .bl b3, .bl b4])) p2 (.tup [V.str "refused", V.int (-1)])) p1 = some (.lst [V.bl b0, .bl b1, .bl b2, .bl b3, .bl b4]) := by rw [upd_ne np, upd_same]
  have f3 : ((σ.set 3 (some (V.ref p1))).set 1 (some (V.ref p2)))[3]? = some (some (.ref p1)) := by rw [List.getElem?_set]; simpa using g3
  have f2 : ((σ.set 3 (some (V.ref p1))).set 1 (some (V.ref p2)))[2]? = some (some (.ref a)) := by rw [List.getElem?_set]; simpa using g2
  refine isV_run E f2 ⟨true, rfl, ?_⟩
  refine ⟨.ref p1, f3, .inl ⟨rfl, _, .inl (.inl k1)⟩, p1, _, .bl true, rfl, rfl, .inl (.inl k1), rfl, rfl, ?_⟩
  rw [hc]
  refine ⟨_, _, rfl, rfl, true, rfl, ?_⟩
  refine ⟨.ref p1, f3, .inl ⟨rfl, _, .inl (.inl k1)⟩, p1, _, .bl true, j, .bl true, rfl, rfl, .inl (.inl k1), rfl, rfl, hj, rfl, hno, ⟨by simp; omega, fun p3 hp3 => ?_⟩⟩
  have n3 := n2.trans (Nx.push (T := T) (o := .tup [V.str "refused", V.int (j : Nat)]) n2.z hp3 fun ps z => by cases z)
  refine hk _ p3 _ _ n3 upd_same (by simp [hl]) ?_
  rw [List.getElem?_set]
  simp [hl]
theorem told_gives {sg : Scope} {x q : Str} {g : Addr} {cdg : Value} {q1 q2 q3 q4 q5 q6 q7 q8 q9 q10 q11 q12 q13 q14 q15 q16 q17 q18 q19 q20 q21 q22 q23 q24 q25 q26 q27 q28 q29 q30 q31 q32 q33 q34 q35 q36 q37 q38 q39 q40 q41 q42 q43 q44 q45 q46 q47 q48 q49 q50 q51 q52 q53 q54 q55 q56 q57 q58 q59 q60 q61 q62 q63 q64 : Pos} (S : ToldS sg) (C : ToldC X.K X.mg) (h1 : (q26.endLine == q27.line) = true) (h2 : (q40.endLine == q41.line) = true) (h3 : (q42.endLine == q43.line) = true) :
    GivesTo X ["deed", "found", "e", "kinds"] x sg g cdg [.Try [(.Assign [(.Name "found" q1)] (.Tuple [(.Constant (.str "told") 0 q2), .Call (.Name "deed" q3) [] [] q4] 0 q5) q6)] [.ExceptHandler (some (.Name "PileError" q60)) (some "e") [(.Assign [(.Name "kinds" q7)] (.List [(.Call (.Name "isinstance" q8) [.Name "e" q9, .Name "TooGreat" q10] [] q11), (.Call (.Name "isinstance" q12) [.Name "e" q13, .Name "NoText" q14] [] q15), (.Call (.Name "isinstance" q16) [.Name "e" q17, .Name "NoDeed" q18] [] q19), (.Call (.Name "isinstance" q20) [.Name "e" q21, .Name "NoKey" q22] [] q23)] q24) q25), (.Expr (.Call (.Attribute (.Name "kinds" q28) "append" q26) [(.Call (.Name "isinstance" q29) [.Name "e" q30, .Name "NoRoom" q31] [] q32)] [] q27) q33), (.Assign [(.Name "found" q34)] (.Tuple [(.Constant (.str "refused") 0 q35), .UnaryOp .USub (.Constant (.int 1) 0 q36) q37] 0 q38) q39), (.If (.BoolOp .And [(.Call (.Name "isinstance" q44) [.Name "e" q45, .Name "ValueError" q46] [] q47), .Compare (.Call (.Attribute (.Name "kinds" q48) "count" q40) [.Constant (.bool true) 0 q49] [] q41) [.Eq] [.Constant (.int 1) 0 q50] q51] q52) [.Assign [(.Name "found" q53)] (.Tuple [(.Constant (.str "refused") 0 q54), .Call (.Attribute (.Name "kinds" q55) "index" q42) [.Constant (.bool true) 0 q56] [] q43] 0 q57) q58] [] q59)] q61] [] [] q62, .Return (some (.Name "found" q63)) q64] "deed" q (TTd X.K T) := by
  intro f c' s H Q tl act hc h
  obtain ⟨F, r, hz, htl, hq⟩ := h
  have vis : ∀ n ∈ (["deed", "found", "e", "kinds"] : List Str), Vis sg n := fun n hn => .inl (S.l n hn)
  have isE : ∀ (n : Str) (a : Addr) (oe : Obj) (D : Addr) (pn : List (Addr × Obj)) (p1 p2 p3 p4 : Pos), n ∈ five → ExcC X.K D → Zc (.ref D) none oe → (∃ vs, oe.data = .fields vs) → (n == ("__debug__" : Str)) = false →
      PE ((cxOf C8.CX0 X.prog X.w X.K X.mg X.base ["deed", "found", "e", "kinds"] x sg g cdg X.A X.stack s H C8.E0).nox.suite a ((a, oe) :: pn)) (.Call (.Name "isinstance" p1) [.Name "e" p2, .Name n p3] [] p4) (tCB (rIsE X.K D a) (tCons (tVar 2) (tCons (tC (.ref (He.ga X.K n))) tNil))) := fun n a oe D pn p1 p2 p3 p4 hn CC zc fl hdb =>
    pe_callB (call_isE CC zc fl) S.gi C.i bt_isinstance (pa_cons (pe_var (i := 2) rfl (vis "e" (by simp))) (pa_cons (pe_glob (v := .ref (He.ga X.K n)) (S.g n hn) (C.g n hn) rfl hdb) pa_nil))
  have isVE : ∀ (a : Addr) (oe : Obj) (D : Addr) (pn : List (Addr × Obj)) (p1 p2 p3 p4 : Pos), ExcC X.K D → Zc (.ref D) none oe → (∃ vs, oe.data = .fields vs) →
      PE ((cxOf C8.CX0 X.prog X.w X.K X.mg X.base ["deed", "found", "e", "kinds"] x sg g cdg X.A X.stack s H C8.E0).nox.suite a ((a, oe) :: pn)) (.Call (.Name "isinstance" p1) [.Name "e" p2, .Name "ValueError" p3] [] p4) (isV X.K D a) := fun a oe D pn p1 p2 p3 p4 CC zc fl =>
    pe_callB (call_isE CC zc fl) S.gi C.i bt_isinstance (pa_cons (pe_var (i := 2) rfl (vis "e" (by simp))) (pa_cons (pe_bltn (v := .ty "ValueError") S.gv C.v bt_ValueError rfl) pa_nil))
  have nd : (["deed", "found", "e", "kinds"] : List Str).Nodup := by decide +kernel
  have lf : sg.names.lookup ("found" : Str) = some .local := S.l "found" (by simp)
  have lk : sg.names.lookup ("kinds" : Str) = some .local := S.l "kinds" (by simp)
  have hs : ∀ (a : Addr) (oe : Obj) (D : Addr) (pn : List (Addr × Obj)), ExcC X.K D → Zc (.ref D) none oe → (∃ vs, oe.data = .fields vs) →
      PSs ((cxOf C8.CX0 X.prog X.w X.K X.mg X.base ["deed", "found", "e", "kinds"] x sg g cdg X.A X.stack s H C8.E0).nox.suite a ((a, oe) :: pn)) [(.Assign [(.Name "kinds" q7)] (.List [(.Call (.Name "isinstance" q8) [.Name "e" q9, .Name "TooGreat" q10] [] q11), (.Call (.Name "isinstance" q12) [.Name "e" q13, .Name "NoText" q14] [] q15), (.Call (.Name "isinstance" q16) [.Name "e" q17, .Name "NoDeed" q18] [] q19), (.Call (.Name "isinstance" q20) [.Name "e" q21, .Name "NoKey" q22] [] q23)] q24) q25), (.Expr (.Call (.Attribute (.Name "kinds" q28) "append" q26) [(.Call (.Name "isinstance" q29) [.Name "e" q30, .Name "NoRoom" q31] [] q32)] [] q27) q33), (.Assign [(.Name "found" q34)] (.Tuple [(.Constant (.str "refused") 0 q35), .UnaryOp .USub (.Constant (.int 1) 0 q36) q37] 0 q38) q39), (.If (.BoolOp .And [(.Call (.Name "isinstance" q44) [.Name "e" q45, .Name "ValueError" q46] [] q47), .Compare (.Call (.Attribute (.Name "kinds" q48) "count" q40) [.Constant (.bool true) 0 q49] [] q41) [.Eq] [.Constant (.int 1) 0 q50] q51] q52) [.Assign [(.Name "found" q53)] (.Tuple [(.Constant (.str "refused") 0 q54), .Call (.Attribute (.Name "kinds" q55) "index" q42) [.Constant (.bool true) 0 q56] [] q43] 0 q57) q58] [] q59)] (RS X.K a D) := fun a oe D pn CC zc fl =>
    pss_cons (ps_asg (pe_lst (pa_cons (isE "TooGreat" a oe D pn _ _ _ _ (by unfold five; simp) CC zc fl (by decide)) (pa_cons (isE "NoText" a oe D pn _ _ _ _ (by unfold five; simp) CC zc fl (by decide)) (pa_cons (isE "NoDeed" a oe D pn _ _ _ _ (by unfold five; simp) CC zc fl (by decide)) (pa_cons (isE "NoKey" a oe D pn _ _ _ _ (by unfold five; simp) CC zc fl (by decide)) pa_nil))))) (pg_name (i := 3) nd rfl (.inl lk) (.inr lk)))
    (pss_cons (ps_expr (pe_bm PySem.F.plainAttrs_list PySem.F.slot_list_append PySem.F.type_list_append mt_append (pe_var (i := 3) rfl (.inl lk)) (pa_cons (isE "NoRoom" a oe D pn _ _ _ _ (by unfold five; simp) CC zc fl (by decide)) pa_nil) rfl rfl h1))
    (pss_cons (ps_asg (pe_tup (pa_cons pe_str (pa_cons (pe_un un_neg pe_int) pa_nil))) (pg_name (i := 1) nd rfl (.inl lf) (.inr lf)))
    (pss_one (ps_if (PW.pt (pw_and (pt_val (isVE a oe D pn _ _ _ _ CC zc fl)) (pw_and1 (pt_cmp (pc_eqI (pe_bm PySem.F.plainAttrs_list PySem.F.slot_list_count PySem.F.type_list_count mt_countF (pe_var (i := 3) rfl (.inl lk)) (pa_cons pe_bl pa_nil) rfl rfl h2) pe_int)))))
      (pss_one (ps_asg (pe_tup (pa_cons pe_str (pa_cons (pe_bm PySem.F.plainAttrs_list PySem.F.slot_list_index PySem.F.type_list_index mt_index (pe_var (i := 3) rfl (.inl lk)) (pa_cons pe_bl pa_nil) rfl rfl h3) pa_nil))) (pg_name (i := 1) nd rfl (.inl lf) (.inr lf)))) pss_nil))))
  refine ⟨_, pss_cons (ps_try_as (X := (cxOf C8.CX0 X.prog X.w X.K X.mg X.base ["deed", "found", "e", "kinds"] x sg g cdg X.A X.stack s H C8.E0).nox) (c := .ref (He.ga X.K "PileError")) (i := 2)
      (tb := fun W D σ H => ∃ Ech : XK, (∀ cls d σ' H', Ech cls d H' → σ'.length = 4 → W cls d σ' H') ∧ σ[0]? = some (some (.ref f)) ∧ H c' = some (CodeO c' q) ∧ tl Ech H fun v H1 => ([V.str "told", v] : List V).length ≤ sizeLine ∧ ∀ p, H1 p = none → D.nx (σ.set 1 (some (.ref p))) (upd H1 p (.tup [.str "told", v])))
      (ts := fun a cls d D σ H => ∃ C, cls = .ref C ∧ d = none ∧ ExcC X.K C ∧ RS X.K a C D σ H)
      (Wout := fun _ _ _ _ => False) rfl rfl nd rfl (S.l "e" (by simp)) ⟨S.gp, by decide, .inl C.p⟩ LamX.takes0 (fun W pn xe tk _ => ?_) (fun a oe cls d pn zc fl => ?_)) (pss_one (ps_ret (pe_var (i := 1) rfl (.inl lf)))), ?_⟩
  · refine ⟨fun pins s' σ H' D I h' => ?_⟩
    obtain ⟨Ech, hW, e1, e2, e3⟩ := h'
    have hp := act (fun c d σ H => σ.length = 4 → W c d σ H) pn xe Ech q3 q4 (takes_len tk) hW
    exact (pss_one (ps_asg (pe_tup (pa_cons pe_str (pa_cons hp pa_nil))) (pg_name (i := 1) nd rfl (.inl lf) (.inr lf)))).run pins s' σ H' D I ⟨e1, e2, e3⟩
  · refine ⟨fun pins s' σ H' D I h' => ?_⟩
    obtain ⟨CC, rfl, rfl, ce, h'⟩ := h'
    exact (hs a oe CC pn ce zc fl).run pins s' σ H' D I h'
  · have sl := sizeLine_eq
    refine ⟨fun cls d H' => ∃ n k F', cls = .ref (He.ga X.K n) ∧ d = none ∧ kindIx n = some k ∧ Nx T F H F' H' ∧ ∀ v F'' H'', Nx T F H F'' H'' → Rp X.K F'' v (.tup [.str "refused", .int k]) → Q v H'', ?_, rfl, hc, ?_⟩
    · intro cls d σ' H' ⟨n, k, F', ec, ed, ek, nx, hQ⟩ hl
      subst ec ed
      have ek' := C.ex n (kindIx_mem ek)
      refine ⟨true, ek'.m, fun _ a ha => ⟨_, rfl, rfl, ek'.c, ?_⟩, fun z => by cases z⟩
      have fin : ∀ (j : Nat) (σ2 : L2.St) (p : Addr) (F2 H2 : Hp), k = (j : Int) → Nx T F' H' F2 H2 → F2 p = some (.tup [.str "refused", .int (j : Nat)]) → σ2.length = 4 → σ2[1]? = some (some (.ref p)) → tRet (tVar 1) { nx := fun _ H' => Q .non H', rt := Q } (σ2.set 2 none) H2 := fun j σ2 p F2 H2 e n2 fp l2 h1 => by
        refine ⟨.ref p, ?_, hQ _ F2 H2 (nx.trans n2) ?_⟩
        · rw [List.getElem?_set]; simpa using h1
        · rw [e]
          exact .tup (.inl (.inl fp)) (.cons (.str _) (.cons (.int _) .nil))
      have l2 : (σ'.set 2 (some (V.ref a))).length = 4 := by rw [List.length_set]; exact hl
      have g2 : (σ'.set 2 (some (V.ref a)))[2]? = some (some (.ref a)) := by rw [List.getElem?_set]; simp [hl]
      have hno : ∀ (l : List V) (j : Nat), (l.take j).all (fun z => !eqV z (.bl true)) = true → ∀ (m : Nat) (z' : V), m < j → l[m]? = some z' → eqV z' (.bl true) = false := fun l j ha m z' hm he => by
        have := List.all_eq_true.mp ha z' (List.mem_of_getElem? (i := m) (by rw [List.getElem?_take, if_pos hm]; exact he))
        simpa using this
      unfold kindIx at ek
      split at ek
      · rename_i e; subst e; cases ek
        exact suite_run (T := T) (j := 0) ek' nx.z l2 g2 (b0 := true) (b1 := false) (b2 := false) (b3 := false) (b4 := false) (by decide +kernel) (by decide +kernel) (by decide +kernel) (by decide +kernel) (by decide +kernel) rfl rfl (hno _ _ rfl) fun σ2 p F2 H2 => fin 0 σ2 p F2 H2 rfl
      · split at ek
        · rename_i e; subst e; cases ek
          exact suite_run (T := T) (j := 1) ek' nx.z l2 g2 (b0 := false) (b1 := true) (b2 := false) (b3 := false) (b4 := false) (by decide +kernel) (by decide +kernel) (by decide +kernel) (by decide +kernel) (by decide +kernel) rfl rfl (hno _ _ rfl) fun σ2 p F2 H2 => fin 1 σ2 p F2 H2 rfl
        · split at ek
          · rename_i e; subst e; cases ek
            exact suite_run (T := T) (j := 2) ek' nx.z l2 g2 (b0 := false) (b1 := false) (b2 := true) (b3 := false) (b4 := false) (by decide +kernel) (by decide +kernel) (by decide +kernel) (by decide +kernel) (by decide +kernel) rfl rfl (hno _ _ rfl) fun σ2 p F2 H2 => fin 2 σ2 p F2 H2 rfl
          · split at ek
            · rename_i e; subst e; cases ek
              exact suite_run (T := T) (j := 3) ek' nx.z l2 g2 (b0 := false) (b1 := false) (b2 := false) (b3 := true) (b4 := false) (by decide +kernel) (by decide +kernel) (by decide +kernel) (by decide +kernel) (by decide +kernel) rfl rfl (hno _ _ rfl) fun σ2 p F2 H2 => fin 3 σ2 p F2 H2 rfl
            · split at ek
              · rename_i e; subst e; cases ek
                exact suite_run (T := T) (j := 4) ek' nx.z l2 g2 (b0 := false) (b1 := false) (b2 := false) (b3 := false) (b4 := true) (by decide +kernel) (by decide +kernel) (by decide +kernel) (by decide +kernel) (by decide +kernel) rfl rfl (hno _ _ rfl) fun σ2 p F2 H2 => fin 4 σ2 p F2 H2 rfl
              · cases ek
    · refine htl _ H F _ (Nx.refl hz) ?_
      cases r with
      | ok d =>
        intro v F1 H1 n1 rv
        refine ⟨by simp; omega, fun p hp => ⟨.ref p, rfl, ?_⟩⟩
        have n2 := n1.trans (Nx.push (T := T) (o := .tup [V.str "told", v]) n1.z hp fun ps z => by cases z)
        exact hq (.ref p) _ _ n2 (.tup (.inl (.inl upd_same)) (.cons (.str _) (.cons (rv.mono (Nx.push (T := T) n1.z hp fun ps z => by cases z).f) .nil)))
      | ex n =>
        intro F1 H1 n1
        cases e : kindIx n with
        | none =>
          have hq : aft (Rp X.K) X.K T (fun _ _ _ _ => False) [] F H Q (match kindIx n with
            | some k => .ok (.tup [.str "refused", .int k])
            | none => .bad) := hq
          rw [e] at hq
          exact hq.elim
        | some k =>
          have hq : aft (Rp X.K) X.K T (fun _ _ _ _ => False) [] F H Q (match kindIx n with
            | some k => .ok (.tup [.str "refused", .int k])
            | none => .bad) := hq
          rw [e] at hq
          exact ⟨n, k, F1, rfl, rfl, e, n1, hq⟩
      | bad => exact hq.elim
end
end DN
namespace DN
open PySem PySem.Spec PyProof.Rows L2
open LamX (Tabs ExtN CodeO GivesTo tLam LamS TabB lamCx lamEnv)

/-- a def that makes lambdas: its code object is known -/
theorem fn_okC {P : Program} {w : World} {K : PySem.W.Frag} {mg : Str → Option Value} {base : Heap} {T : List (Addr × Str)} {k : Nat} {x qual : Str} {params : Arguments} {body : List Stmt} {scope : Scope} {kws : List (Str × V)} {fd : FuncData} {N ps : List Str} {n : Nat} {s : Rho → SR}
    (Fd : FunD K x qual params body scope [] kws (He.ga K x) fd) (S : FnScope N ps scope) (hn : ps.length = n)
    (hb : ∀ (A : Around) (outer : List Env) (s0 : Shared) (H0 : Hp) (E : XK) (F0 : Hp), Room k (A.deeper (envOfC qual scope s0.heap.objs.size (He.ga K x) (.ref (He.cT K (x, none)).1))) → DSs (cxOf (L2.CX P w) P w K mg base N qual scope (He.ga K x) (.ref (He.cT K (x, none)).1) A outer s0 H0 E) T (WofE E) F0 H0 body s) :
    FnOk P w K mg base (L2.CX P w) (k + 1) (He.ga K x) fd ps (spD K T n (runB N.length s)) := by
  obtain ⟨oc, od, dV, kV, doc, pm, an, cdv, ct, osl, rfl, lk, hcd, hD, hK⟩ := Fd.ex
  obtain ⟨c, rfl⟩ := He.codeIn_ref hcd
  have ec : (He.cT K (x, none)).1 = c := He.codeOf_eq (p := (x, none)) lk rfl
  rw [ec] at hb
  refine fn_of lk hcd S (fun vs H Q E h => ?_) fun A outer s0 H vs Q E hr h => ?_
  · obtain ⟨F, ds, _, _, r, hl, _⟩ := h
    rw [r.length, hl, hn]
  · obtain ⟨F, ds, z, tb, r, hl, h⟩ := h
    refine ⟨_, hb A outer s0 H E F hr, startR N.length ds, F, ⟨⟨z, tb, Rl.start r⟩, Nx.refl z, fun i d p h1 => ?_⟩, ?_⟩
    · exfalso
      unfold startR at h1
      rw [List.getElem?_append] at h1
      split at h1
      · rw [List.getElem?_map] at h1
        cases e : ds[i]? with
        | none => rw [e] at h1; cases h1
        | some d => rw [e] at h1; cases h1
      · rw [List.getElem?_replicate] at h1
        split at h1 <;> cases h1
    · unfold runB at h
      cases e : s (startR N.length ds) with
      | nx ρ => rw [e] at h; exact fun σ F' H' g _ => h .non F' H' g.nx .non
      | rt d => rw [e] at h; exact fun v F' H' nx rv => h v F' H' nx rv
      | ex m ρ => rw [e] at h; exact fun σ F' H' g _ => h F' H' g.nx
      | bk ρ => rw [e] at h; exact h.elim
      | ct ρ => rw [e] at h; exact h.elim
      | bad => rw [e] at h; exact h.elim
section
variable {X : Cx} {T : List (Addr × Str)} {W : WX}
theorem nx_tabs {F H H1 : Hp} (z : Fz F H) (e : ExtN H H1) (t : Tabs T H1) : Nx T F H F H1 :=
  ⟨Sub.refl F, ⟨fun a o h => e a o (z.sub a o h) fun ps q => z.nt a ps (by rw [h, q]), z.nt⟩, e, fun a o h => .inl h, fun _ => t⟩
theorem e_told {pg : Arguments} {bg : List Stmt} {sg : Scope} {fd : FuncData} {c P : Addr} {k : Nat} {params : Arguments} {body : Expr} {scope : Scope} {f : Rho → Res D} {p lpos pos : Pos} {q : Str}
    (Fd : FunD X.K "_law_told" "_law_told" pg bg sg [] [] (He.ga X.K "_law_told") fd) (hm : X.mg "_law_told" = some (.ref (He.ga X.K "_law_told"))) (hbn : L2.Binds X.K fd ["deed"] []) (Sg : FnScope ["deed", "found", "e", "kinds"] ["deed"] sg)
    (hG : ∀ cdg, GivesTo X ["deed", "found", "e", "kinds"] "_law_told" sg (He.ga X.K "_law_told") cdg bg "deed" (X.env.qual ++ "<lambda>") (TTd X.K T))
    (TB : TabB X.base X.mg c P) (hcode : X.env.code = .ref c) (hq : X.env.qual ++ "<lambda>" = q) (hmT : (P, q) ∈ T) (hu : ∀ p ∈ T, p.1 = P → p.2 = q) (hg : Gl X "_law_told") (hr : Room (k + 2) X.A) (L : LamX.lamSB X.env.scope scope = true)
    (hbody : ∀ (A : Around) (outer : List Env) (s : Shared) (H : Hp) (E : XK) (f' c' : Addr), Room k (A.deeper (lamEnv X scope s.heap.objs.size f' c')) → DE (lamCx X A outer s H E scope f' c') T (WofE E) body f)
    (hdef : defaultsOf params X.env = ([], []) := by rfl)
    (hbind : ∀ (q : Str) (cl : List (Str × Addr)) (pm cv ctv : Value), bindArgs (PySem.W.kla_fn "<lambda>" q params body scope cl pm cv ctv) ⟨[], []⟩ = pure [] := by intros; rfl) :
    DE X T W (.Call (.Name "_law_told" p) [.Lambda params body scope lpos] [] pos) (toldD f) := by
  subst hq
  obtain ⟨oc, od, dV, kV, doc, pm, an, cdv, ct, osl, rfl, lk, hcd, hD, hK⟩ := Fd.ex
  refine (LamX.pe_lamcall (k := k) (t := fun E => tE X.K T (WofE E) f) hg hm Fd.kp lk hcd hbn Sg rfl (Sg.par "deed" (by simp) |>.elim .inl fun z => .inr (.inl z)) (hG cdv) TB hcode hmT hu hr (LamX.lamS_by L) hdef hbind (fun A outer s H E f' c' hr' => hbody A outer s H E f' c' hr')).to fun σ H Q h => ?_
  obtain ⟨ρ, F, a, h⟩ := h
  refine ⟨a.t, fun H1 e1 t1 => ?_⟩
  have n := nx_tabs a.z e1 t1
  have h := aft.mono n h
  refine ⟨F, f ρ, n.z, fun E H' F' Q' n2 h2 => ⟨ρ, F', (a.nx n).nx n2, ?_⟩, ?_⟩
  · cases e : f ρ with
    | ok d => rw [e] at h2; exact h2
    | ex m => rw [e] at h2; exact h2
    | bad => rw [e] at h2; exact h2
  · unfold toldD at h
    cases e : toldR (f ρ) with
    | ok d => rw [e] at h; exact h
    | bad => rw [e] at h; exact h
    | ex m =>
      exfalso
      unfold toldR at e
      split at e
      · cases e
      · split at e <;> cases e
      · cases e
end
theorem lawAtT {l : PySem.W.OpenLaw} {w : World} {K : PySem.W.Frag} {k n : Nat} {x : Str} {mg : Str → Option Value} {fa : Addr} {h : Heap} {fd : FuncData} {den : List D → Res D} {tf : List He.Defn} {T : List (Addr × Str)} (X : K.In h)
    (hd0 : ∀ p ∈ tf, PySem.W.codeHdIn K (He.cT K p).1 (He.cT K p).2 = true) (out : ∀ p ∈ tf, K.lookup (He.cT K p).2 = none) (empty : ∀ p ∈ tf, h.get? (He.cT K p).2 = some { cls := .none, data := .fields #[] })
    (hT : ∀ p ∈ T, ∃ d ∈ tf, p.1 = (He.cT K d).2)
    (hb : ∀ (s : Shared) (u : Value), BindsTo s fd ⟨[u], []⟩ [(x, u)])
    (hd : ∀ ns : List Int, ns.length ≤ n → (∀ z ∈ ns, Builtin.Int.intBits z ≤ 1048576) → den [.arr ns] = .ok (.bl true))
    (hF : ∀ base : Heap, K.In base → base.Ns mainGlobals mg → (∀ d ∈ tf, TabB base mg (He.cT K d).1 (He.cT K d).2) → FnOk l.prog w K mg base (L2.CX l.prog w) k fa fd [x] (spD K T 1 den)) : LamX.LawAtS l w K (L2.CX l.prog w) k n x mg fa h := by
  have key : ∀ p ∈ tf.map (He.cT K), ∃ d ∈ tf, p = He.cT K d := fun p hp => by
    obtain ⟨d, h1, h2⟩ := List.mem_map.mp hp
    exact ⟨d, h1, h2.symm⟩
  refine ⟨fd, tf.map (He.cT K), spD K T 1 den, fun p hp => ?_, fun p hp => ?_, fun p hp => ?_, hb, fun H a ns hl hz ht hS => law_sp (fun p hp => ?_) hS (hd ns hl hz), fun base h1 h2 h3 => hF base h1 h2 fun d hd => h3 _ (List.mem_map.mpr ⟨d, hd, rfl⟩)⟩
  · obtain ⟨d, h1, rfl⟩ := key p hp; exact empty d h1
  · obtain ⟨d, h1, rfl⟩ := key p hp; exact out d h1
  · obtain ⟨d, h1, rfl⟩ := key p hp; exact PySem.W.codeHd_of_K X (hd0 d h1)
  · obtain ⟨d, h1, h2⟩ := hT p hp
    rw [h2]
    exact LamX.TabS.nil (ht _ (List.mem_map.mpr ⟨d, h1, rfl⟩))
theorem told_c {K : PySem.W.Frag} {mg : Str → Option Value} (h : ∀ n ∈ five, ExK K n) (g0 : mg "TooGreat" = some (.ref (He.ga K "TooGreat"))) (g1 : mg "NoText" = some (.ref (He.ga K "NoText"))) (g2 : mg "NoDeed" = some (.ref (He.ga K "NoDeed"))) (g3 : mg "NoKey" = some (.ref (He.ga K "NoKey"))) (g4 : mg "NoRoom" = some (.ref (He.ga K "NoRoom")))
    (p : mg "PileError" = some (.ref (He.ga K "PileError"))) (i : mg "isinstance" = none) (v : mg "ValueError" = none) : ToldC K mg := ⟨h, fun n hn => by
  unfold five at hn
  simp only [List.mem_cons, List.not_mem_nil, or_false] at hn
  rcases hn with rfl | rfl | rfl | rfl | rfl <;> assumption, p, i, v⟩
theorem exc_n {K : PySem.W.Frag} {h : Heap} {mg : Str → Option Value} {x : Str} (X : K.In h) (G : h.Ns mainGlobals mg) (c : (He.Fa.glo x).ok K = true) (e : (He.Fa.exc x).ok K = true) : ExcN K mg x := by
  obtain ⟨h1, h2, h3, h4⟩ := He.exc_ok e
  exact ⟨h1, h2, h3, h4, He.glo_ok X G c⟩
end DN
namespace DN
open PySem PySem.Spec PyProof.Rows L2
open LamX (Tabs ExtN)
section
variable {X : Cx} {T : List (Addr × Str)} {W : WX}
end
end DN
namespace DN
open PySem PySem.Spec PyProof.Rows L2
open LamX (Tabs ExtN)

/-! ### a module's dict of defs, text keys -/
theorem keys_miss {P : Params} {z : Str} : ∀ {l : List DictEntry} {ks : List Str}, l.map He.keyOf = He.keysIn P ks → z ∉ ks → l.find? (·.key.isStr z) = none ∧ l.any (·.refKey) = false
  | [], _, _, _ => ⟨rfl, rfl⟩
  | e :: r, [], h, _ => by cases h
  | e :: r, k :: ks, h, hz => by
    have h1 : He.keyOf e :: r.map He.keyOf = some (k, PyData.keyHash P k) :: He.keysIn P ks := h
    injection h1 with h2 h3
    obtain ⟨i1, i2⟩ := keys_miss h3 (fun q => hz (List.mem_cons_of_mem _ q))
    have hk : ∃ t, e.key = .str k t := by
      unfold He.keyOf at h2
      split at h2
      · rename_i x t q
        obtain ⟨h5, _⟩ := Prod.mk.inj (Option.some.inj h2)
        exact ⟨t, by rw [q, h5]⟩
      · cases h2
    obtain ⟨t, hk⟩ := hk
    have n1 : e.key.isStr z = false := by
      rw [hk]
      show (k == z) = false
      exact beq_eq_false_iff_ne.mpr fun q => hz (by rw [q]; exact List.mem_cons_self)
    have n2 : e.refKey = false := by unfold DictEntry.refKey; rw [hk]
    refine ⟨?_, ?_⟩
    · rw [List.find?_cons, n1]; exact i1
    · rw [List.any_cons, n2, i2]; rfl
/-- the module's dict x: text keys, defs -/
structure DicF (w : World) (K : PySem.W.Frag) (mg : Str → Option Value) (x : Str) (kvs : List (Str × Str)) : Prop where
  kd : ∃ es n, KDict K w (He.ga K x) es n ∧ es.toList.map He.keyOf = He.keysIn w.params (kvs.map Prod.fst)
  vals : ∀ q ∈ kvs, ∃ u, PySem.W.nsIn K (He.ga K x) q.1 = some (some u) ∧ RelV (.ref (He.ga K q.2)) u
  g : mg x = some (.ref (He.ga K x))
theorem DicF.ns {w : World} {K : PySem.W.Frag} {mg : Str → Option Value} {x : Str} {kvs : List (Str × Str)} (D : DicF w K mg x kvs) (z : Str) : ∃ r, PySem.W.nsIn K (He.ga K x) z = some r ∧ r.isSome = (kvs.map Prod.fst).contains z := by
  by_cases h : z ∈ kvs.map Prod.fst
  · obtain ⟨q, hq, rfl⟩ := List.mem_map.mp h
    obtain ⟨u, h1, _⟩ := D.vals q hq
    exact ⟨some u, h1, by rw [List.contains_iff_mem.mpr h]; rfl⟩
  · obtain ⟨es, n, kd, hk⟩ := D.kd
    obtain ⟨h1, h2⟩ := keys_miss hk h
    refine ⟨none, ?_, ?_⟩
    · unfold PySem.W.nsIn
      rw [kd.at_]
      simp only [h1, h2]
      rfl
    · have : (kvs.map Prod.fst).contains z = false := by
        rw [Bool.eq_false_iff]
        exact fun q => h (List.contains_iff_mem.mp q)
      rw [this]; rfl
section
variable {X : Cx} {T : List (Addr × Str)} {W : WX} {F0 H0 : Hp}
/-! ### a call of a name that holds a def -/
/-! ### try with two handlers -/
end
end DN
namespace DN
open PySem PySem.Spec PyProof.Rows L2
open LamX (Tabs ExtN)

section
variable {X : Cx} {T : List (Addr × Str)} {W : WX} {F0 H0 : Hp}
/-! ### a display of text keys that is used at once -/
end
end DN
namespace DN
open PySem PySem.Spec PyProof.Rows L2
open LamX (Tabs ExtN)

section
variable {X : Cx} {T : List (Addr × Str)} {W : WX} {F0 H0 : Hp}
/-! ### a display of text keys, its item taken at once -/
end
/-! ### a module's dict of texts -/
structure DicS (w : World) (K : PySem.W.Frag) (mg : Str → Option Value) (x : Str) (kvs : List (Str × Str)) : Prop where
  kd : ∃ es n, KDict K w (He.ga K x) es n ∧ es.toList.map He.keyOf = He.keysIn w.params (kvs.map Prod.fst)
  vals : ∀ q ∈ kvs, ∃ u, PySem.W.nsIn K (He.ga K x) q.1 = some (some u) ∧ RelV (.str q.2) u
  g : mg x = some (.ref (He.ga K x))
theorem DicS.ns {w : World} {K : PySem.W.Frag} {mg : Str → Option Value} {x : Str} {kvs : List (Str × Str)} (D : DicS w K mg x kvs) (z : Str) : ∃ r, PySem.W.nsIn K (He.ga K x) z = some r ∧ r.isSome = (kvs.map Prod.fst).contains z := by
  by_cases h : z ∈ kvs.map Prod.fst
  · obtain ⟨q, hq, rfl⟩ := List.mem_map.mp h
    obtain ⟨u, h1, _⟩ := D.vals q hq
    exact ⟨some u, h1, by rw [List.contains_iff_mem.mpr h]; rfl⟩
  · obtain ⟨es, n, kd, hk⟩ := D.kd
    obtain ⟨h1, h2⟩ := keys_miss hk h
    refine ⟨none, ?_, ?_⟩
    · unfold PySem.W.nsIn
      rw [kd.at_]
      simp only [h1, h2]
      rfl
    · have : (kvs.map Prod.fst).contains z = false := by
        rw [Bool.eq_false_iff]
        exact fun q => h (List.contains_iff_mem.mp q)
      rw [this]; rfl
section
variable {X : Cx} {T : List (Addr × Str)} {W : WX} {F0 H0 : Hp}
/-! ### a def of which nothing is promised: the recursion's ground -/
end
end DN
/-! lists of the frame's own: made, appended to, stored into, read, frozen -/
namespace DN
open PySem PySem.Spec PyProof.Rows L2
open LamX (Tabs ExtN)

def D.flat : D → Bool
  | .non => true
  | .bl _ => true
  | .int _ => true
  | .str _ => true
  | _ => false
def flatR : Res D → Res D
  | .ok d => if d.flat = true then .ok d else .bad
  | r => r
def frz (i : Nat) (ρ : Rho) : Rho := match ρ[i]? with
  | some (.o (.lst ds)) => ρ.set i (.z (.lst ds))
  | _ => ρ
def bor (i : Nat) (f : Rho → Res D) : Rho → Res D := fun ρ => flatR (f (frz i ρ))
def borQ (i : Nat) (f : Rho → Res Bool) : Rho → Res Bool := fun ρ => f (frz i ρ)
theorem Rp.flat {K : PySem.W.Frag} {F F' : Hp} {v : V} {d : D} (h : Rp K F v d) (e : d.flat = true) : Rp K F' v d := by
  cases h <;> first | exact .non | exact .bl _ | exact .int _ | exact .str _ | cases e
section
variable {K : PySem.W.Frag} {T : List (Addr × Str)} {W : WX} {F0 H0 F H : Hp} {σ : L2.St} {ρ : Rho}
theorem At.frz (a : At K T F H σ ρ) (i : Nat) : ∃ F1, At K T F1 H σ (frz i ρ) ∧ Sub F F1 ∧ (∀ F' H', Nx T F1 H F' H' → Nx T F H F H') ∧ (∀ F0 H0, Nx T F0 H0 F H → Ow H0 σ ρ → Nx T F0 H0 F1 H ∧ Ow H0 σ (frz i ρ)) := by
  have triv : ∃ F1, At K T F1 H σ ρ ∧ Sub F F1 ∧ (∀ F' H', Nx T F1 H F' H' → Nx T F H F H') ∧ (∀ F0 H0, Nx T F0 H0 F H → Ow H0 σ ρ → Nx T F0 H0 F1 H ∧ Ow H0 σ ρ) :=
    ⟨F, a, Sub.refl F, fun F' H' n => ⟨Sub.refl F, ⟨n.f.trans n.z.sub, a.z.nt⟩, n.h, fun _ _ h => .inl h, n.tab⟩, fun F0 H0 n o => ⟨n, o⟩⟩
  unfold DN.frz
  split
  · rename_i ds e
    obtain ⟨p, hs, hp, xs, hx, rx⟩ := a.r.o i _ e
    have sb : Sub F (upd F p (.lst xs)) := fun b o eb => by
      rw [upd_ne fun z => by rw [z, hp] at eb; cases eb]; exact eb
    have z1 : Fz (upd F p (.lst xs)) H := ⟨fun b o eb => by
      by_cases hb : b = p
      · subst hb; rw [upd_same] at eb; rw [← eb]; exact hx
      · rw [upd_ne hb] at eb; exact a.z.sub _ _ eb, fun b ps eb => by
      by_cases hb : b = p
      · subst hb; rw [upd_same] at eb; cases eb
      · rw [upd_ne hb] at eb; exact a.z.nt _ _ eb⟩
    have il : i < ρ.length := (List.getElem?_eq_some_iff.mp e).1
    refine ⟨upd F p (.lst xs), ⟨z1, a.t, ?_⟩, sb, fun F' H' n => ⟨Sub.refl F, ⟨sb.trans (n.f.trans n.z.sub), a.z.nt⟩, n.h, fun _ _ h => .inl h, n.tab⟩, fun F0 H0 n o => ⟨⟨n.f.trans sb, z1, n.h, fun b u eb => ?_, n.tab⟩, fun j d q h1 h2 => ?_⟩⟩
    · refine ⟨by rw [List.length_set]; exact a.r.len, fun j d hj => ?_, fun j d hj => ?_, fun j k d1 d2 q1 q2 hn h1 h2 h3 h4 => ?_⟩
      · rw [List.getElem?_set] at hj
        by_cases hij : i = j
        · subst hij
          rw [if_pos rfl, if_pos il] at hj
          cases hj
          exact ⟨_, hs, .lst upd_same (rx.mono sb)⟩
        · rw [if_neg hij] at hj
          obtain ⟨v, h1, h2⟩ := a.r.z j d hj
          exact ⟨v, h1, h2.mono sb⟩
      · rw [List.getElem?_set] at hj
        by_cases hij : i = j
        · subst hij
          rw [if_pos rfl, if_pos il] at hj
          cases hj
        · rw [if_neg hij] at hj
          obtain ⟨q, h1, h2, h3⟩ := a.r.o j d hj
          have hne : p ≠ q := a.r.ne i j _ _ p q hij e hj hs h1
          refine ⟨q, h1, by rw [upd_ne (Ne.symm hne)]; exact h2, ?_⟩
          cases d with
          | lst es => obtain ⟨ys, k1, k2⟩ := h3; exact ⟨ys, k1, k2.mono sb⟩
          | dK _ => exact h3
          | dT _ => exact h3
          | dic _ _ _ _ => obtain ⟨es, k1, k2⟩ := h3; exact ⟨es, k1, k2.mono sb⟩
          | ins _ _ _ => obtain ⟨dx, ws, k1, k2⟩ := h3; exact ⟨dx, ws, k1, k2.mono sb⟩
          | _ => exact h3.elim
      · rw [List.getElem?_set] at h1 h2
        have fj : i ≠ j := fun z => by rw [if_pos z] at h1; split at h1 <;> cases h1
        have fk : i ≠ k := fun z => by rw [if_pos z] at h2; split at h2 <;> cases h2
        rw [if_neg fj] at h1
        rw [if_neg fk] at h2
        exact a.r.ne j k d1 d2 q1 q2 hn h1 h2 h3 h4
    · by_cases hb : b = p
      · subst hb
        exact .inr fun o' e' => .inl (o i _ b e hs o' e')
      · rw [upd_ne hb] at eb; exact n.new _ _ eb
    · rw [List.getElem?_set] at h1
      by_cases hij : i = j
      · subst hij
        rw [if_pos rfl, if_pos il] at h1
        cases h1
      · rw [if_neg hij] at h1
        exact o j d q h1 h2
  · exact triv
end
section
variable {X : Cx} {T : List (Addr × Str)} {W : WX} {F0 H0 : Hp}
def sfrz (i : Nat) (s : Rho → SR) : Rho → SR := fun ρ => s (frz i ρ)
end

/-! ### made -/
def aftO (K : PySem.W.Frag) (T : List (Addr × Str)) (W : WX) (σ : L2.St) (F H : Hp) (Q : V → Hp → Prop) : Res D → Prop
  | .ok (.lst ds) => ∀ p vs F' H', Nx T F H F' H' → F' p = none → H' p = some (.lst vs) → RpAll K F' vs ds → (∀ o, H p = some o → ∃ ps, o = .tbl ps) → Q (.ref p) H'
  | .ok _ => False
  | .ex n => ∀ F' H', Nx T F H F' H' → W (.ref (He.ga K n)) none σ H'
  | .bad => False
def sown (f : Rho → Res D) (i : Nat) : Rho → SR := fun ρ => bindS (f ρ) ρ fun d => match d with
  | .lst ds => .nx (ρ.set i (.o (.lst ds)))
  | _ => .bad
section
variable {K : PySem.W.Frag} {T : List (Addr × Str)} {W : WX} {F0 H0 F H : Hp} {σ : L2.St} {ρ : Rho}
theorem Rl.setO {i : Nat} {p : Addr} {vs : List V} {ds : List D} (r : Rl K F H σ ρ) (hp : F p = none) (hx : H p = some (.lst vs)) (rx : RpAll K F vs ds) (fr : ∀ (j : Nat) (d : D) (q : Addr), ρ[j]? = some (En.o d) → σ[j]? = some (some (V.ref q)) → q ≠ p) :
    Rl K F H (σ.set i (some (.ref p))) (ρ.set i (.o (.lst ds))) where
  len := by rw [List.length_set, List.length_set]; exact r.len
  z := fun j e hj => by
    rw [List.getElem?_set] at hj ⊢
    by_cases hij : i = j
    · subst hij
      rw [if_pos rfl] at hj
      split at hj <;> cases hj
    · rw [if_neg hij] at hj ⊢
      exact r.z j e hj
  o := fun j e hj => by
    rw [List.getElem?_set] at hj ⊢
    by_cases hij : i = j
    · subst hij
      rw [if_pos rfl] at hj ⊢
      by_cases hl : i < ρ.length
      · rw [if_pos hl] at hj
        rw [if_pos (by rw [r.len]; exact hl)]
        cases hj
        exact ⟨p, rfl, hp, vs, hx, rx⟩
      · rw [if_neg hl] at hj; cases hj
    · rw [if_neg hij] at hj ⊢
      exact r.o j e hj
  ne := fun j k a b q1 q2 hn h1 h2 h3 h4 => by
    rw [List.getElem?_set] at h1 h2 h3 h4
    by_cases fj : i = j
    · have fk : i ≠ k := fun z => hn (fj.symm.trans z)
      rw [if_neg fk] at h2 h4
      rw [if_pos fj] at h3
      have : q1 = p := by split at h3 <;> cases h3; rfl
      rw [this]
      exact Ne.symm (fr k _ q2 h2 h4)
    · rw [if_neg fj] at h1 h3
      by_cases fk : i = k
      · rw [if_pos fk] at h4
        have : q2 = p := by split at h4 <;> cases h4; rfl
        rw [this]
        exact fr j _ q1 h1 h3
      · rw [if_neg fk] at h2 h4
        exact r.ne j k a b q1 q2 hn h1 h2 h3 h4
theorem Ow.setO {i : Nat} {p : Addr} {d : D} (o : Ow H0 σ ρ) (hp : ∀ o, H0 p = some o → ∃ ps, o = .tbl ps) : Ow H0 (σ.set i (some (.ref p))) (ρ.set i (.o d)) := fun j e q h1 h2 => by
  rw [List.getElem?_set] at h1 h2
  by_cases hij : i = j
  · rw [if_pos hij] at h2
    have : q = p := by split at h2 <;> cases h2; rfl
    rw [this]; exact hp
  · rw [if_neg hij] at h1 h2
    exact o j e q h1 h2
/-- an own list made at p, bound to slot i -/
theorem Sg.own {F1 H1 : Hp} {i : Nat} {p : Addr} {vs : List V} {ds : List D} (g : Sg K T F0 H0 F H σ ρ) (n : Nx T F H F1 H1) (hp : F1 p = none) (hx : H1 p = some (.lst vs)) (rx : RpAll K F1 vs ds) (fr : ∀ o, H p = some o → ∃ ps, o = .tbl ps) :
    Sg K T F0 H0 F1 H1 (σ.set i (some (.ref p))) (ρ.set i (.o (.lst ds))) := by
  have g1 := g.step n
  refine ⟨⟨g1.at_.z, g1.at_.t, g1.at_.r.setO hp hx rx fun j d q h1 h2 e => ?_⟩, g1.nx, g1.ow.setO fun o ho => ?_⟩
  · obtain ⟨q', k1, k2, k3⟩ := g.at_.r.o j d h1
    rw [h2] at k1
    cases k1
    obtain ⟨o, k4, k5⟩ := k3.solid
    rw [e] at k4
    obtain ⟨ps, k6⟩ := fr o k4
    exact k5 ps k6
  · by_cases q : ∃ ps, o = .tbl ps
    · exact q
    · exact fr o (g.nx.h p o ho fun ps z => q ⟨ps, z⟩)
end
section
variable {X : Cx} {T : List (Addr × Str)} {W : WX} {F0 H0 : Hp}
theorem back_tbl {H H2 : Hp} {p : Addr} (n : ExtN H H2) (fr : ∀ o, H2 p = some o → ∃ ps, o = .tbl ps) : ∀ o, H p = some o → ∃ ps, o = .tbl ps := fun o ho => by
  by_cases q : ∃ ps, o = .tbl ps
  · exact q
  · exact fr o (n p o ho fun ps z => q ⟨ps, z⟩)
theorem aftO.bind {K : PySem.W.Frag} {σ : L2.St} {F H : Hp} {α β : Type} {R : Hp → α → β → Prop} {Q : V → Hp → Prop} {r : Res β} {k : β → Res D} (h : aftO K T W σ F H Q (r.bind k)) :
    aft R K T W σ F H (fun a H1 => ∃ b F1, r = .ok b ∧ Nx T F H F1 H1 ∧ R F1 a b ∧ aftO K T W σ F1 H1 Q (k b)) r := by
  cases r with
  | ok b =>
    refine fun a F2 H2 n ra => ⟨b, F2, rfl, n, ra, ?_⟩
    have h : aftO K T W σ F H Q (k b) := h
    cases e : k b with
    | ok d =>
      rw [e] at h
      cases d with
      | lst ds => exact fun p vs F' H' n2 hp hx rx fr => h p vs F' H' (n.trans n2) hp hx rx (back_tbl n.h fr)
      | _ => exact h.elim
    | ex m => rw [e] at h; exact fun F' H' n2 => h F' H' (n.trans n2)
    | bad => rw [e] at h; exact h.elim
  | ex m => exact h
  | bad => exact h
/-! ### appended, stored, read -/
def ownR (i : Nat) (ρ : Rho) : Res (List D) := match ρ[i]? with
  | some (.o (.lst ds)) => .ok ds
  | _ => .bad
def sapp (i : Nat) (f : Rho → Res D) : Rho → SR := fun ρ => bindS (ownR i ρ) ρ fun ds => bindS (f ρ) ρ fun d => if ds.length < sizeLine then .nx (ρ.set i (.o (.lst (ds ++ [d])))) else .bad
theorem RpAll.set {K : PySem.W.Frag} {F : Hp} : ∀ {vs : List V} {ds : List D} (n : Nat) {v : V} {d : D}, RpAll K F vs ds → Rp K F v d → RpAll K F (vs.set n v) (ds.set n d)
  | _, _, _, _, _, .nil, _ => .nil
  | _, _, 0, _, _, .cons _ t, r => .cons r t
  | _, _, n + 1, _, _, .cons h t, r => .cons h (RpAll.set n t r)
def sput (i : Nat) (fk fe : Rho → Res D) : Rho → SR := fun ρ => bindS (fe ρ) ρ fun d => bindS (ownR i ρ) ρ fun ds => bindS (fk ρ) ρ fun k => match k with
  | .int j => (match ixN ds.length j with
    | some m => .nx (ρ.set i (.o (.lst (ds.set m d))))
    | none => .bad)
  | _ => .bad
def ixO (i : Nat) (fk : Rho → Res D) : Rho → Res D := fun ρ => (ownR i ρ).bind fun ds => (fk ρ).bind fun k => match k with
  | .int j => ofO (atI ds j)
  | _ => .bad
end
end DN
/-! comprehensions with any target; lists made so are own or frozen -/
namespace DN
open PySem PySem.Spec PyProof.Rows L2
open LamX (Tabs ExtN)

theorem At.wipe {K : PySem.W.Frag} {T : List (Addr × Str)} {F H : Hp} {σ : L2.St} {ρ : Rho} (a : At K T F H σ ρ) : ∀ vs : List Nat, At K T F H (L2.wipe σ vs) (wipeR ρ vs)
  | [] => a
  | v :: vs => ⟨a.z, a.t, (At.wipe a vs).r.wipe1⟩
/-! targets that touch the slots vs alone -/
section
variable {X : Cx} {T : List (Addr × Str)} {W : WX} {F0 H0 : Hp} {vs : List Nat}
end
section
variable {X : Cx} {T : List (Addr × Str)} {W : WX} {F0 H0 : Hp}
section
variable {j : Nat} {y : Str} {py : Pos} {elt tg iter : Expr} {ifs : List Expr} {scope : Scope} {own : List (Str × Nat)} {pos spos : Pos} {f : Rho → Res (List D)} {g : Tg} {t : Rho → Res Bool} {e : Rho → Res D}
end
end
end DN
/-! min, max and index of a list of ints; evaluation of own lists -/
namespace DN
open PySem PySem.Spec PyProof.Rows L2
open LamX (Tabs ExtN)

section
variable {X : Cx} {T : List (Addr × Str)} {W : WX} {F0 H0 : Hp}
end
/-! ### evaluation -/
section
variable {ρ : Rho}
def ownRR (r : Res D) (ρ : Rho) (i : Nat) : SR := bindS r ρ fun d => match d with
  | .lst ds => .nx (ρ.set i (.o (.lst ds)))
  | _ => .bad
theorem sown_def {f : Rho → Res D} {i : Nat} : sown f i ρ = ownRR (f ρ) ρ i := rfl
theorem ownRR_ok {ds : List D} {i : Nat} : ownRR (.ok (.lst ds)) ρ i = .nx (ρ.set i (.o (.lst ds))) := rfl
theorem frz_lst {ds : List D} {r : Rho} : frz 0 (.o (.lst ds) :: r) = .z (.lst ds) :: r := rfl
theorem frz_z {d : D} {r : Rho} : frz 0 (.z d :: r) = .z d :: r := rfl
theorem frz_u {r : Rho} : frz 0 (.u :: r) = .u :: r := rfl
theorem frz_succ {i : Nat} {e : En} {r : Rho} : frz (i + 1) (e :: r) = e :: frz i r := by
  unfold frz
  rw [List.getElem?_cons_succ]
  cases r[i]? with
  | none => rfl
  | some en =>
    cases en with
    | u => rfl
    | z d => rfl
    | o d => cases d <;> rfl
theorem sfrz_def {i : Nat} {s : Rho → SR} : sfrz i s ρ = s (frz i ρ) := rfl
theorem bor_def {i : Nat} {f : Rho → Res D} : bor i f ρ = flatR (f (frz i ρ)) := rfl
theorem borQ_def {i : Nat} {f : Rho → Res Bool} : borQ i f ρ = f (frz i ρ) := rfl
theorem flat_i {i : Int} : flatR (.ok (.int i)) = .ok (.int i) := rfl
theorem flat_s {x : Str} : flatR (.ok (.str x)) = .ok (.str x) := rfl
theorem flat_b {b : Bool} : flatR (.ok (.bl b)) = .ok (.bl b) := rfl
theorem flat_n : flatR (.ok .non) = .ok .non := rfl
theorem own_zero {ds : List D} {r : Rho} : ownR 0 (.o (.lst ds) :: r) = .ok ds := rfl
theorem own_succ {i : Nat} {e : En} {r : Rho} : ownR (i + 1) (e :: r) = ownR i r := rfl
def appRR (ds : Res (List D)) (r : Res D) (ρ : Rho) (i : Nat) : SR := bindS ds ρ fun ds => bindS r ρ fun d => if ds.length < sizeLine then .nx (ρ.set i (.o (.lst (ds ++ [d])))) else .bad
theorem sapp_def {i : Nat} {f : Rho → Res D} : sapp i f ρ = appRR (ownR i ρ) (f ρ) ρ i := rfl
def putRR (v : Res D) (ds : Res (List D)) (k : Res D) (ρ : Rho) (i : Nat) : SR := bindS v ρ fun d => bindS ds ρ fun ds => bindS k ρ fun k => match k with
  | .int j => (match ixN ds.length j with
    | some m => .nx (ρ.set i (.o (.lst (ds.set m d))))
    | none => .bad)
  | _ => .bad
theorem sput_def {i : Nat} {f g : Rho → Res D} : sput i f g ρ = putRR (g ρ) (ownR i ρ) (f ρ) ρ i := rfl
def ixRR (ds : Res (List D)) (k : Res D) : Res D := ds.bind fun ds => k.bind fun k => match k with
  | .int j => ofO (atI ds j)
  | _ => .bad
theorem ixO_def {i : Nat} {f : Rho → Res D} : ixO i f ρ = ixRR (ownR i ρ) (f ρ) := rfl
end
end DN
/-! list(x) as an own list -/
namespace DN
open PySem PySem.Spec PyProof.Rows L2
open LamX (Tabs ExtN)
section
variable {X : Cx} {T : List (Addr × Str)} {W : WX}
end
end DN
/-! sorted of a list of texts -/
namespace DN
open PySem PySem.Spec PyProof.Rows L2
open LamX (Tabs ExtN)
section
variable {X : Cx} {T : List (Addr × Str)} {W : WX}
end
end DN
/-! tuples of texts whose object is known: tuple(list), len, [], in, index, + -/
namespace DN
open PySem PySem.Spec PyProof.Rows L2
open LamX (Tabs ExtN)
section
variable {X : Cx} {T : List (Addr × Str)} {W : WX}
/-! t.index(x), t a tuple whose object is known: one argument, by the kit's wpAny_Call_method1_late -/
variable {o e : Expr} {to : TE} {t : TA} {apos cpos : Pos}
end
end DN
/-! str.replace: rules where a token is out -/
namespace DN
open PySem PySem.Spec PyProof.Rows L2
open LamX (Tabs ExtN)
section
variable {X : Cx} {T : List (Addr × Str)} {W : WX} {F0 H0 : Hp}
end
end DN
/-! zip of two lists, of two tuples -/
namespace DN
open PySem PySem.Spec PyProof.Rows L2
open LamX (Tabs ExtN)
open RZ (ItzT iZipA pi_zipA)
def prs : List D → List D → List D
  | a :: as, b :: bs => .tup [a, b] :: prs as bs
  | _, _ => []
def zipR : List D → Res (List D)
  | [.lst a, .lst b] => .ok (prs a b)
  | [.tup a, .tup b] => .ok (prs a b)
  | _ => .bad
def zipI (f : Rho → Res (List D)) : Rho → Res (List D) := fun ρ => (f ρ).bind zipR
theorem prs_get : ∀ {as bs : List D} {i : Nat} {d : D}, (prs as bs)[i]? = some d → ∃ a b, as[i]? = some a ∧ bs[i]? = some b ∧ d = .tup [a, b]
  | [], _, _, _, h => by simp [prs] at h
  | _ :: _, [], _, _, h => by simp [prs] at h
  | a :: as, b :: bs, 0, d, h => by
    have h : some (D.tup [a, b]) = some d := h
    cases h
    exact ⟨a, b, rfl, rfl, rfl⟩
  | a :: as, b :: bs, i + 1, d, h => by
    have h : (prs as bs)[i]? = some d := h
    exact prs_get (as := as) (bs := bs) h
theorem prs_len : ∀ (as bs : List D), (prs as bs).length = min as.length bs.length
  | [], _ => by simp [prs]
  | _ :: _, [] => by simp [prs]
  | a :: as, b :: bs => by
    show (prs as bs).length + 1 = min (as.length + 1) (bs.length + 1)
    rw [prs_len as bs]
    omega
section
variable {X : Cx} {T : List (Addr × Str)} {W : WX}
theorem walks_zip {K : PySem.W.Frag} {F : Hp} {a b : Addr} {xs ys : List V} {ds es : List D} (h1 : SqL K F a xs) (r1 : RpAll K F xs ds) (h2 : SqL K F b ys) (r2 : RpAll K F ys es) : Walks K T F (Itz K a b) (prs ds es) := fun i F' H sb z => by
  have l1 : SqL K H a xs := (sb.trans z.sub).sl h1
  have l2 : SqL K H b ys := (sb.trans z.sub).sl h2
  refine ⟨fun d hd => ?_, fun hle => ⟨xs, ys, l1, l2, ?_⟩⟩
  · obtain ⟨d1, d2, g1, g2, rfl⟩ := prs_get hd
    obtain ⟨v1, hv1, rv1⟩ := r1.get g1
    obtain ⟨v2, hv2, rv2⟩ := r2.get g2
    refine ⟨⟨xs, ys, v1, v2, l1, l2, hv1, hv2⟩, fun x H' y => ?_⟩
    obtain ⟨t, u1, u2, rfl, hn, rfl, y1, y2⟩ := y
    have e1 := y1 xs l1
    have e2 := y2 ys l2
    rw [hv1] at e1
    rw [hv2] at e2
    cases e1
    cases e2
    refine ⟨_, Nx.push z hn (fun ps q => by cases q), ?_⟩
    exact rp_tup z hn (.cons (rv1.mono sb) (.cons (rv2.mono sb) .nil))
  · rw [prs_len] at hle
    rw [r1.length, r2.length]
    omega
theorem walks_zipT {K : PySem.W.Frag} {F : Hp} {a b : Addr} {xs ys : List V} {ds es : List D} (h1 : SqT K F a xs) (r1 : RpAll K F xs ds) (h2 : SqT K F b ys) (r2 : RpAll K F ys es) : Walks K T F (ItzT K a b) (prs ds es) := fun i F' H sb z => by
  have l1 : SqT K H a xs := (sb.trans z.sub).st h1
  have l2 : SqT K H b ys := (sb.trans z.sub).st h2
  refine ⟨fun d hd => ?_, fun hle => ⟨xs, ys, l1, l2, ?_⟩⟩
  · obtain ⟨d1, d2, g1, g2, rfl⟩ := prs_get hd
    obtain ⟨v1, hv1, rv1⟩ := r1.get g1
    obtain ⟨v2, hv2, rv2⟩ := r2.get g2
    refine ⟨⟨xs, ys, v1, v2, l1, l2, hv1, hv2⟩, fun x H' y => ?_⟩
    obtain ⟨t, u1, u2, rfl, hn, rfl, y1, y2⟩ := y
    have e1 := y1 xs l1
    have e2 := y2 ys l2
    rw [hv1] at e1
    rw [hv2] at e2
    cases e1
    cases e2
    refine ⟨_, Nx.push z hn (fun ps q => by cases q), ?_⟩
    exact rp_tup z hn (.cons (rv1.mono sb) (.cons (rv2.mono sb) .nil))
  · rw [prs_len] at hle
    rw [r1.length, r2.length]
    omega
theorem zip_to {K : PySem.W.Frag} {f : Rho → Res (List D)} : ∀ σ H R, tI K T W (zipI f) σ H R → iZipA K (tA K T W f) σ H R := fun σ H R ⟨ρ, F, a, h⟩ => by
  refine ⟨ρ, F, a, (aft.bind (R := RpAll K) h).imp fun ds _ vs F1 H1 _ _ q => ?_⟩
  obtain ⟨ds', F2, _, n, rs, q⟩ := q
  unfold zipR at q
  split at q
  · obtain ⟨v1, v2, rfl, r1, r2⟩ := all2 rs
    cases r1 with
    | lst h1 s1 =>
      cases r2 with
      | lst h2 s2 =>
        refine ⟨_, _, _, _, rfl, .inl ⟨SqL.of (n.z.sub _ _ h1), SqL.of (n.z.sub _ _ h2), ?_⟩⟩
        exact q _ F2 H1 (Nx.refl n.z) (walks_zip (SqL.of h1) s1 (SqL.of h2) s2)
  · obtain ⟨v1, v2, rfl, r1, r2⟩ := all2 rs
    cases r1 with
    | tup h1 s1 =>
      cases r2 with
      | tup h2 s2 =>
        refine ⟨_, _, _, _, rfl, .inr ⟨n.z.sub.st h1, n.z.sub.st h2, ?_⟩⟩
        exact q _ F2 H1 (Nx.refl n.z) (walks_zipT h1 s1 h2 s2)
  · exact q.elim
theorem i_zip {e e2 : Expr} {p pos tpos : Pos} {elts : List Expr} {kk : Nat} {f : Rho → Res (List D)} (hg : Gl X "zip") (hm : X.mg "zip" = none) (ha : DA X T W [e, e2] f)
    (hs : starEach [e, e2] X.env = (false, eval e X.env) :: starEach [e2] X.env := by rfl) (hpl : (backTo pos (starEach [e2] X.env)).any (·.1) = false := by rfl) : DI X T W (.Tuple elts kk tpos) (.Call (.Name "zip" p) [e, e2] [] pos) (zipI f) :=
  (pi_zipA hg hm ha hs hpl).to zip_to
end
end DN
/-! x.replace(y, z, 1); statements behind which a token is out -/
namespace PySem
open Builtin Builtin.Str
section
variable {prog : Program} {w : World} {A : Around} {E : Value → Shared → Prop} {s : Shared} {x y z : Str} {t u v c : Tok} {Q : Value → Shared → Prop}
end
end PySem
namespace DN
open PySem PySem.Spec PyProof.Rows L2
open LamX (Tabs ExtN)
section
variable {X : Cx} {T : List (Addr × Str)} {W : WX} {F0 H0 : Hp}
end
end DN
/-! DN25: repr of nested tuples; a law whose body is read under the outermost call alone (no repr is under way there). -/
namespace DN
open PySem PySem.Spec PyProof.Rows L2
open LamX (Tabs ExtN TabB)

section
variable {X : Cx} {T : List (Addr × Str)}
end
/-! ### a law's def, read under the outermost call -/
/-! the heap at the law's entry: the script (if the head doesn't hold it) and the empty tables are tracked -/
section
variable {K : PySem.W.Frag} {cs : List (Addr × Addr)} {a b : Addr} {o : Obj} {ns : List Int} {h : Heap} {u : HO}
end
section
variable {l : PySem.W.OpenLaw} {w : World} {K : PySem.W.Frag} {n : Nat} {x : Str} {mg mb : Str → Option Value} {fa a : Addr} {fd : FuncData} {cs : List (Addr × Addr)} {sp : Sp} {s s' : Shared} {vs : List Value} {ns : List Int} {o : Obj}
end
end DN
/-! dicts of the frame's own whose keys are nested tuples -/
namespace DN
open PySem PySem.Spec PyProof.Rows L2
open LamX (Tabs ExtN)

section
variable {X : Cx} {pins : List (Addr × Obj)} {σ : L2.St} {F H : Hp} {s : Shared}
end
/-! ### looked up, stored -/
section
variable {K : PySem.W.Frag} {F : Hp} {es : List (NestedKey × Addr × V)} {ks vs : List D} {xs : List (NestedKey × Addr × Value)} {n : NestedKey}
end
/-! ### the operations, by the heap -/
section
variable {X : Cx}
theorem DicR.length {K : PySem.W.Frag} {F : Hp} {es : List (NestedKey × Addr × V)} {ks vs : List D} (r : DicR K F es ks vs) : es.length = ks.length := by
  induction r with
  | nil => rfl
  | cons _ _ _ _ _ ih => rw [List.length_cons, List.length_cons, ih]
end
/-! ### no dict is a code object -/
theorem tabs_updG {T : List (Addr × Str)} {H : Hp} {p : Addr} {o o' : HO} (h : Tabs T H) (e : H p = some o) (h1 : ∀ ps, o ≠ .tbl ps) (h2 : ∀ q, o ≠ LamX.CodeO p q) : Tabs T (upd H p o') := fun q hq => by
  obtain ⟨ps, k1, k2, k3⟩ := h q hq
  refine ⟨ps, ?_, k2, fun pos cv hc => ?_⟩
  · rw [upd_ne fun z => by rw [z, e] at k1; exact h1 ps (Option.some.inj k1)]; exact k1
  · obtain ⟨c, e1, e2⟩ := k3 pos cv hc
    refine ⟨c, e1, ?_⟩
    rw [upd_ne fun z => by subst z; rw [e] at e2; exact h2 _ (Option.some.inj e2)]; exact e2
theorem OwnAt.updN {K : PySem.W.Frag} {F H : Hp} {p q : Addr} {o : HO} (hne : q ≠ p) : ∀ {d : D}, OwnAt K F H q d → OwnAt K F (upd H p o) q d
  | .lst ds, ⟨zs, k1, k2⟩ => ⟨zs, by rw [upd_ne hne]; exact k1, k2⟩
  | .dK _, h => by show upd H p o q = _; rw [upd_ne hne]; exact h
  | .dT _, h => by show upd H p o q = _; rw [upd_ne hne]; exact h
  | .dic _ _ _ _, ⟨es, k1, k2⟩ => ⟨es, by rw [upd_ne hne]; exact k1, k2⟩
  | .ins _ _ _, ⟨dx, ws, k1, k2⟩ => ⟨dx, ws, by rw [upd_ne hne]; exact k1, k2⟩
  | .non, h => h.elim
  | .bl _, h => h.elim
  | .int _, h => h.elim
  | .str _, h => h.elim
  | .tup _, h => h.elim
  | .fn _, h => h.elim
  | .ty _, h => h.elim
  | .arr _, h => h.elim
  | .pro _, h => h.elim
  | .adr _, h => h.elim
  | .tab _ _ _, h => h.elim
section
variable {K : PySem.W.Frag} {T : List (Addr × Str)} {W : WX} {F0 H0 F H : Hp} {σ : L2.St} {ρ : Rho}
end
/-! ### by data -/
section
variable {X : Cx} {T : List (Addr × Str)} {W : WX} {F0 H0 : Hp}
end
end DN
/-! known tuples of texts: written ones, + -/
namespace DN
open PySem PySem.Spec PyProof.Rows L2
open LamX (Tabs ExtN)
section
variable {X : Cx} {T : List (Addr × Str)} {W : WX}
end
end DN
/-! M-mode: one slot holds a dict of text keys that is changed, also by callees -/
namespace DN
open PySem PySem.Spec PyProof.Rows L2
open LamX (Tabs ExtN)

/-! ### data without lists and dicts -/
mutual
def D.imm : D → Bool
  | .non => true
  | .bl _ => true
  | .int _ => true
  | .str _ => true
  | .fn _ => true
  | .ty _ => true
  | .adr _ => true
  | .pro _ => true
  | .pw _ => true
  | .tup ds => D.imms ds
  | _ => false
def D.imms : List D → Bool
  | [] => true
  | d :: ds => D.imm d && D.imms ds
end
/-- F without the addresses of S -/
def cut (F : Hp) (S : List Addr) : Hp := fun a => if a ∈ S then none else F a
theorem cut_out {F : Hp} {S : List Addr} {a : Addr} (h : a ∉ S) : cut F S a = F a := if_neg h
/-- lists and dicts alone stand there -/
def Soft (F : Hp) (S : List Addr) : Prop := ∀ a ∈ S, ∀ o, F a = some o → (∃ xs, o = .lst xs) ∨ ∃ kvs, o = .dK kvs
theorem cut_sqT {K : PySem.W.Frag} {F : Hp} {S : List Addr} {a : Addr} {xs : List V} (h : SqT K F a xs) (hs : Soft F S) : SqT K (cut F S) a xs := by
  rcases h with h | h
  · refine .inl ?_
    rcases h with h | ⟨o, h⟩
    · refine .inl ?_
      rw [cut_out fun z => ?_]; exact h
      rcases hs a z _ h with ⟨_, e⟩ | ⟨_, e⟩ <;> cases e
    · refine .inr ⟨o, ?_⟩
      rw [cut_out fun z => ?_]; exact h
      rcases hs a z _ h with ⟨_, e⟩ | ⟨_, e⟩ <;> cases e
  · exact .inr h
mutual
theorem Rp.cutS {K : PySem.W.Frag} {F : Hp} {S : List Addr} (hs : Soft F S) : ∀ {v : V} {d : D}, Rp K F v d → d.imm = true → Rp K (cut F S) v d
  | _, _, .non, _ => .non
  | _, _, .bl b, _ => .bl b
  | _, _, .int i, _ => .int i
  | _, _, .str x, _ => .str x
  | _, _, .fn x, _ => .fn x
  | _, _, .ty n, _ => .ty n
  | _, _, .lst h t, e => by unfold D.imm at e; cases e
  | _, _, .tup h t, e => .tup (cut_sqT h hs) (RpAll.cutS hs t (by unfold D.imm at e; exact e))
  | _, _, .dK h, e => by unfold D.imm at e; cases e
  | _, _, .dT h, e => by unfold D.imm at e; cases e
  | _, _, .arr h, e => by unfold D.imm at e; cases e
  | _, _, .pro ⟨o, h1, h2, h3⟩, _ => .pro ⟨o, h1, h2, by
      rw [cut_out fun z => ?_]; exact h3
      rcases hs _ z _ h3 with ⟨_, e⟩ | ⟨_, e⟩ <;> cases e⟩
  | _, _, .pw h, _ => .pw (by
      rw [cut_out fun z => ?_]; exact h
      rcases hs _ z _ h with ⟨_, e⟩ | ⟨_, e⟩ <;> cases e)
  | _, _, .adr a, _ => .adr a
  | _, _, .frm h t, e => by unfold D.imm at e; cases e
  | _, _, .tab h1 h2 h3 t, e => by unfold D.imm at e; cases e
theorem RpAll.cutS {K : PySem.W.Frag} {F : Hp} {S : List Addr} (hs : Soft F S) : ∀ {vs : List V} {ds : List D}, RpAll K F vs ds → D.imms ds = true → RpAll K (cut F S) vs ds
  | _, _, .nil, _ => .nil
  | _, _, .cons h t, e => by
    unfold D.imms at e
    rw [Bool.and_eq_true] at e
    exact .cons (Rp.cutS hs h e.1) (RpAll.cutS hs t e.2)
end
/-! ### the state -/
/-- the fields: tuples and flat things, or own lists of such (their addresses) -/
inductive Flds (K : PySem.W.Frag) (F H : Hp) : List V → List D → List Addr → Prop
  | nil : Flds K F H [] [] []
  | imm {v : V} {d : D} {vs : List V} {ds : List D} {S : List Addr} : d.imm = true → Rp K F v d → Flds K F H vs ds S → Flds K F H (v :: vs) (d :: ds) S
  | lst {a : Addr} {xs : List V} {es : List D} {vs : List V} {ds : List D} {S : List Addr} : H a = some (.lst xs) → RpAll K F xs es → D.imms es = true → Flds K F H vs ds S → Flds K F H (.ref a :: vs) (.lst es :: ds) (a :: S)
abbrev MSt := List Str × List D
structure StAt (K : PySem.W.Frag) (F H : Hp) (p : Addr) (m : MSt) (S : List Addr) : Prop where
  ex : ∃ ws S', S = p :: S' ∧ H p = some (.dK (kvK m.1 ws)) ∧ m.1.length = ws.length ∧ Flds K F H ws m.2 S'
  nd : S.Nodup
  out : ∀ a ∈ S, F a = none
  nk : m.1.Nodup
theorem Flds.solid {K : PySem.W.Frag} {F H : Hp} {ws : List V} {ds : List D} {S : List Addr} (h : Flds K F H ws ds S) : ∀ a ∈ S, ∃ xs, H a = some (.lst xs) := by
  induction h with
  | nil => intro a h; cases h
  | imm _ _ _ ih => exact ih
  | lst h _ _ _ ih =>
    intro a ha
    rcases List.mem_cons.mp ha with rfl | ha
    · exact ⟨_, h⟩
    · exact ih a ha
theorem StAt.solid {K : PySem.W.Frag} {F H : Hp} {p : Addr} {m : MSt} {S : List Addr} (h : StAt K F H p m S) : ∀ a ∈ S, ∃ o, H a = some o ∧ ((∃ xs, o = .lst xs) ∨ ∃ kvs, o = .dK kvs) := by
  obtain ⟨ws, S', rfl, h1, _, h2⟩ := h.ex
  intro a ha
  rcases List.mem_cons.mp ha with rfl | ha
  · exact ⟨_, h1, .inr ⟨_, rfl⟩⟩
  · obtain ⟨xs, e⟩ := h2.solid a ha
    exact ⟨_, e, .inl ⟨_, rfl⟩⟩
theorem soft_nt {o : HO} (h : (∃ xs, o = .lst xs) ∨ ∃ kvs, o = .dK kvs) : ∀ ps, o ≠ .tbl ps := fun ps z => by
  rcases h with ⟨_, e⟩ | ⟨_, e⟩ <;> (rw [e] at z; cases z)
theorem StAt.mem {K : PySem.W.Frag} {F H : Hp} {p : Addr} {m : MSt} {S : List Addr} (h : StAt K F H p m S) : p ∈ S := by
  obtain ⟨_, _, rfl, _⟩ := h.ex
  exact List.mem_cons_self
theorem Flds.mono {K : PySem.W.Frag} {F H F' H' : Hp} {ws : List V} {ds : List D} {S : List Addr} (sf : Sub F F') (sh : ∀ a ∈ S, ∀ xs, H a = some (.lst xs) → H' a = some (.lst xs)) (h : Flds K F H ws ds S) : Flds K F' H' ws ds S := by
  induction h with
  | nil => exact .nil
  | imm e r _ ih => exact .imm e (r.mono sf) (ih sh)
  | lst h r e _ ih => exact .lst (sh _ List.mem_cons_self _ h) (r.mono sf) e (ih fun a ha => sh a (List.mem_cons_of_mem _ ha))
section
variable {K : PySem.W.Frag} {T : List (Addr × Str)} {W : WX} {F0 G F H F1 H1 : Hp} {σ : L2.St} {ρ : Rho} {p : Addr} {m : MSt} {S : List Addr}
theorem StAt.nx (h : StAt K F H p m S) (n : Nx T F H F1 H1) : StAt K F1 H1 p m S where
  ex := by
    obtain ⟨ws, S', e, h1, hl, h2⟩ := h.ex
    exact ⟨ws, S', e, n.keep h1 (fun ps z => by cases z), hl, h2.mono n.f fun a _ xs e => n.keep e fun ps z => by cases z⟩
  nd := h.nd
  nk := h.nk
  out := fun a ha => by
    obtain ⟨o, h1, h2⟩ := h.solid a ha
    exact n.out h1 (soft_nt h2) (h.out a ha) fun xs z => by rcases h2 with ⟨_, e⟩ | ⟨_, e⟩ <;> (rw [e] at z; cases z)
/-! ### lent: the state stands in the frozen part for a while -/
def lend (F H : Hp) (S : List Addr) : Hp := fun a => if a ∈ S then H a else F a
theorem lend_in {a : Addr} (h : a ∈ S) : lend F H S a = H a := if_pos h
theorem lend_out {a : Addr} (h : a ∉ S) : lend F H S a = F a := if_neg h
theorem lend_sub (h : ∀ a ∈ S, F a = none) : Sub F (lend F H S) := fun a o e => by
  rw [lend_out fun z => by rw [h a z] at e; cases e]; exact e
theorem lend_z (z : Fz F H) (h : StAt K F H p m S) : Fz (lend F H S) H where
  sub := fun a o e => by
    by_cases ha : a ∈ S
    · rw [lend_in ha] at e; exact e
    · rw [lend_out ha] at e; exact z.sub a o e
  nt := fun a ps e => by
    by_cases ha : a ∈ S
    · rw [lend_in ha] at e
      obtain ⟨o, h1, h2⟩ := h.solid a ha
      rw [e] at h1; cases h1
      exact soft_nt h2 ps rfl
    · rw [lend_out ha] at e; exact z.nt a ps e
theorem lend_flds {ws : List V} {ds : List D} {S' : List Addr} (sb : ∀ a ∈ S', a ∈ S) (sf : Sub F (lend F H S)) (h : Flds K F H ws ds S') : RpAll K (lend F H S) ws ds := by
  induction h with
  | nil => exact .nil
  | imm e r _ ih => exact .cons (r.mono sf) (ih sb)
  | lst h r e _ ih => exact .cons (.lst (by rw [lend_in (sb _ List.mem_cons_self)]; exact h) (r.mono sf)) (ih fun a ha => sb a (List.mem_cons_of_mem _ ha))
theorem lend_rp (h : StAt K F H p m S) : Rp K (lend F H S) (.ref p) (.tab (some p) m.1 m.2) := by
  obtain ⟨ws, S', e, h1, hl, h2⟩ := h.ex
  exact .tab (fun q e => Option.some.inj e) (by rw [lend_in h.mem]; exact h1) hl (lend_flds (fun a ha => by rw [e]; exact List.mem_cons_of_mem _ ha) (lend_sub h.out) h2)
end
end DN
namespace DN
open PySem PySem.Spec PyProof.Rows L2
open LamX (Tabs ExtN)

/-! ### M-mode: statements -/
inductive SM where
  | nx (ρ : Rho) (m : MSt) | fin (b : Bool) (m : MSt) | rt (d : D) | ex (n : Str) | bad
def Free (G : Hp) (S : List Addr) : Prop := ∀ a ∈ S, ∀ o, G a = some o → ∃ ps, o = HO.tbl ps
structure Mg (K : PySem.W.Frag) (T : List (Addr × Str)) (F0 G F H : Hp) (σ : L2.St) (ρ : Rho) (i : Nat) (p : Addr) (m : MSt) (S : List Addr) : Prop where
  at_ : At K T F H σ ρ
  nx : Nx T F0 G F H
  no : ∀ (j : Nat) (d : D), ρ[j]? ≠ some (En.o d)
  me : ρ[i]? = some (En.z (.adr p))
  st : StAt K F H p m S
  fr : Free G S
def aftM (K : PySem.W.Frag) (T : List (Addr × Str)) (W : WX) (F0 G F : Hp) (i : Nat) (p : Addr) (Z : Ends) : SM → Prop
  | .nx ρ m => ∀ σ F' H' S, Mg K T F0 G F' H' σ ρ i p m S → Sub F F' → Z.nx σ H'
  | .fin b m => ∀ F' H' S, Nx T F0 G F' H' → StAt K F' H' p m S → Free G S → Z.rt (if b = true then .ref p else .non) H'
  | .rt d => ∀ v F' H', Nx T F0 G F' H' → Rp K F' v d → Z.rt v H'
  | .ex n => ∀ σ F' H', Nx T F0 G F' H' → W (.ref (He.ga K n)) none σ H'
  | .bad => False
section
variable {K : PySem.W.Frag} {T : List (Addr × Str)} {W : WX} {F0 G F H F1 H1 : Hp} {σ : L2.St} {ρ : Rho} {i : Nat} {p : Addr} {m : MSt} {S : List Addr} {Z : Ends}
theorem aftM.mono {r : SM} (e : Sub F F1) (h : aftM K T W F0 G F i p Z r) : aftM K T W F0 G F1 i p Z r := by
  cases r with
  | nx ρ m => exact fun σ F' H' S g s => h σ F' H' S g (e.trans s)
  | fin b m => exact h
  | rt d => exact h
  | ex n => exact h
  | bad => exact h
theorem Mg.step (g : Mg K T F0 G F H σ ρ i p m S) (n : Nx T F H F1 H1) : Mg K T F0 G F1 H1 σ ρ i p m S := ⟨g.at_.nx n, g.nx.trans n, g.no, g.me, g.st.nx n, g.fr⟩
theorem Mg.sg (g : Mg K T F0 G F H σ ρ i p m S) : Sg K T F H F H σ ρ := ⟨g.at_, Nx.refl g.at_.z, fun j d q h1 => absurd h1 (g.no j d)⟩
end
def adrOf (i : Nat) (ρ : Rho) : Option Addr := match ρ[i]? with
  | some (.z (.adr p)) => some p
  | _ => none
theorem adrOf_me {i : Nat} {ρ : Rho} {p : Addr} (h : ρ[i]? = some (En.z (.adr p))) : adrOf i ρ = some p := by
  unfold adrOf; rw [h]
def lent (i : Nat) (ρ : Rho) (m : MSt) : Rho := match adrOf i ρ with
  | some p => ρ.set i (.z (.tab (some p) m.1 m.2))
  | none => ρ
section
variable {K : PySem.W.Frag} {T : List (Addr × Str)} {W : WX} {F0 G F H F1 H1 : Hp} {σ : L2.St} {ρ : Rho} {i : Nat} {p : Addr} {m : MSt} {S : List Addr} {Z : Ends}
theorem lent_me (h : ρ[i]? = some (En.z (.adr p))) : lent i ρ m = ρ.set i (.z (.tab (some p) m.1 m.2)) := by
  unfold lent; rw [adrOf_me h]
theorem Mg.lent (g : Mg K T F0 G F H σ ρ i p m S) : At K T (lend F H S) H σ (DN.lent i ρ m) := by
  rw [lent_me g.me]
  have sb := lend_sub (H := H) g.st.out
  obtain ⟨v, h1, h2⟩ := g.at_.r.z i _ g.me
  cases h2
  have r : Rl K (lend F H S) H σ ρ := ⟨g.at_.r.len, fun j d e => let ⟨v, h1, h2⟩ := g.at_.r.z j d e; ⟨v, h1, h2.mono sb⟩, fun j d e => absurd e (g.no j d), fun j k d e q1 q2 _ h => absurd h (g.no j d)⟩
  have il : i < ρ.length := (List.getElem?_eq_some_iff.mp g.me).1
  have e : σ.set i (some (V.ref p)) = σ := by
    refine List.ext_getElem? fun j => ?_
    rw [List.getElem?_set]
    split
    · rename_i hij; subst hij
      rw [if_pos (by rw [g.at_.r.len]; exact il), h1]
    · rfl
  have := r.set (i := i) (lend_rp g.st)
  rw [e] at this
  exact ⟨lend_z g.at_.z g.st, g.at_.t, this⟩
end
section
variable {X : Cx} {T : List (Addr × Str)} {W : WX} {F0 G : Hp} {i : Nat}
theorem Mg.adr {K : PySem.W.Frag} {F H : Hp} {σ : L2.St} {ρ : Rho} {p q : Addr} {m m' : MSt} {S S' : List Addr} {F1 H1 : Hp} (g : Mg K T F0 G F H σ ρ i p m S) (e : ρ[i]? = some (En.z (.adr q))) : p = q := by
  rw [g.me] at e; cases e; rfl
end
end DN
namespace DN
open PySem PySem.Spec PyProof.Rows L2
open LamX (Tabs ExtN)

/-! ### the state is changed -/
def fset {α : Type} : List Str → List α → Str → α → List α
  | k :: ks, w :: ws, x, v => (if k = x then v else w) :: fset ks ws x v
  | _, ws, _, _ => ws
def fget {α : Type} : List Str → List α → Str → Option α
  | k :: ks, w :: ws, x => if k = x then some w else fget ks ws x
  | _, _, _ => none
theorem fset_out {α : Type} : ∀ (ks : List Str) (ws : List α) (x : Str) (v : α), x ∉ ks → fset ks ws x v = ws
  | [], _, _, _, _ => rfl
  | _ :: _, [], _, _, _ => rfl
  | k :: ks, w :: ws, x, v, h => by
    show (if k = x then v else w) :: fset ks ws x v = _
    rw [if_neg fun e => h (by rw [e]; exact List.mem_cons_self), fset_out ks ws x v fun e => h (List.mem_cons_of_mem _ e)]
section
variable {K : PySem.W.Frag} {T : List (Addr × Str)} {W : WX} {F0 G F H F1 H1 : Hp} {σ : L2.St} {ρ : Rho} {i : Nat} {p : Addr} {m m' : MSt} {S S' : List Addr} {Z : Ends}
theorem Flds.length {ws : List V} {ds : List D} (h : Flds K F H ws ds S) : ws.length = ds.length := by
  induction h with
  | nil => rfl
  | imm _ _ _ ih => rw [List.length_cons, List.length_cons, ih]
  | lst _ _ _ _ ih => rw [List.length_cons, List.length_cons, ih]
theorem soft_code {o : HO} {a : Addr} (h : (∃ xs, o = .lst xs) ∨ ∃ kvs, o = .dK kvs) : ∀ q, o ≠ LamX.CodeO a q := fun q z => by
  unfold LamX.CodeO at z
  rcases h with ⟨_, e⟩ | ⟨_, e⟩ <;> (rw [e] at z; cases z)
theorem Mg.put {q : Addr} {o' : HO} (g : Mg K T F0 G F H σ ρ i p m S) (hq : q ∈ S) (st : StAt K F (upd H q o') p m' S') (fr : Free G S') : Mg K T F0 G F (upd H q o') σ ρ i p m' S' := by
  obtain ⟨o, h1, h2⟩ := g.st.solid q hq
  have fq := g.st.out q hq
  have z1 : Fz F (upd H q o') := ⟨fun b u eb => by
    rw [upd_ne fun z => by rw [z, fq] at eb; cases eb]; exact g.at_.z.sub _ _ eb, g.at_.z.nt⟩
  refine ⟨⟨z1, tabs_updG g.at_.t h1 (soft_nt h2) (soft_code h2), ⟨g.at_.r.len, g.at_.r.z, fun j d e => absurd e (g.no j d), fun j k d e q1 q2 _ h => absurd h (g.no j d)⟩⟩, ⟨g.nx.f, z1, fun b u eb no => ?_, g.nx.new, fun t => tabs_updG (g.nx.tab t) h1 (soft_nt h2) (soft_code h2)⟩, g.no, g.me, st, fr⟩
  rw [upd_ne fun z => by
    subst z
    obtain ⟨ps, k⟩ := g.fr b hq u eb
    exact no ps k]
  exact g.nx.h _ _ eb no
end
section
variable {X : Cx} {T : List (Addr × Str)} {W : WX} {F0 G : Hp} {i : Nat}
end
end DN
namespace DN
open PySem PySem.Spec PyProof.Rows L2
open LamX (Tabs ExtN)

/-! ### a dict of text keys is read -/
section
variable {X : Cx} {T : List (Addr × Str)} {W : WX} {F0 G : Hp} {i : Nat}
/-! ### an own list of the state is changed -/
/-- the list of the field k -/
theorem Flds.at_ {K : PySem.W.Frag} {F H : Hp} {x : Str} {ws : List V} {ds : List D} {S : List Addr} (h : Flds K F H ws ds S) : S.Nodup → ∀ (ks : List Str), ks.Nodup → ∀ {es : List D}, fget ks ds x = some (.lst es) →
    ∃ a xs, fget ks ws x = some (.ref a) ∧ a ∈ S ∧ H a = some (.lst xs) ∧ RpAll K F xs es ∧ D.imms es = true ∧
      ∀ ys fs, RpAll K F ys fs → D.imms fs = true → Flds K F (upd H a (.lst ys)) ws (fset ks ds x (.lst fs)) S := by
  induction h with
  | nil => intro _ ks _ es e; cases ks <;> cases e
  | @imm v0 d0 vs ds S hi r0 h ih =>
    intro nd ks nk es e
    cases ks with
    | nil => cases e
    | cons k ks =>
      rw [List.nodup_cons] at nk
      have e : (if k = x then some d0 else fget ks ds x) = some (.lst es) := e
      by_cases hk : k = x
      · rw [if_pos hk] at e
        cases e
        unfold D.imm at hi; cases hi
      · rw [if_neg hk] at e
        obtain ⟨a, xs, h1, h2, h3, h4, h5, h6⟩ := ih nd ks nk.2 e
        refine ⟨a, xs, ?_, h2, h3, h4, h5, fun ys fs r hf => ?_⟩
        · show (if k = x then some v0 else fget ks vs x) = _
          rw [if_neg hk]; exact h1
        · show Flds K F _ _ ((if k = x then D.lst fs else d0) :: _) S
          rw [if_neg hk]
          exact .imm hi r0 (h6 ys fs r hf)
  | @lst a xs es0 vs ds S hx r0 hi h ih =>
    intro nd ks nk es e
    have nd' := List.nodup_cons.mp nd
    cases ks with
    | nil => cases e
    | cons k ks =>
      rw [List.nodup_cons] at nk
      have e : (if k = x then some (D.lst es0) else fget ks ds x) = some (.lst es) := e
      by_cases hk : k = x
      · rw [if_pos hk] at e
        cases e
        refine ⟨a, xs, ?_, List.mem_cons_self, hx, r0, hi, fun ys fs r hf => ?_⟩
        · show (if k = x then some (V.ref a) else fget ks vs x) = _
          rw [if_pos hk]
        · show Flds K F _ _ ((if k = x then D.lst fs else D.lst es0) :: fset ks ds x (.lst fs)) (a :: S)
          rw [if_pos hk, fset_out ks ds x _ (by rw [← hk]; exact nk.1)]
          exact .lst upd_same r hf (h.mono (Sub.refl F) fun b hb zs q => by rw [upd_ne fun z => nd'.1 (by rw [← z]; exact hb)]; exact q)
      · rw [if_neg hk] at e
        obtain ⟨b, zs, h1, h2, h3, h4, h5, h6⟩ := ih nd'.2 ks nk.2 e
        refine ⟨b, zs, ?_, List.mem_cons_of_mem _ h2, h3, h4, h5, fun ys fs r hf => ?_⟩
        · show (if k = x then some (V.ref a) else fget ks vs x) = _
          rw [if_neg hk]; exact h1
        · show Flds K F _ _ ((if k = x then D.lst fs else D.lst es0) :: _) (a :: S)
          rw [if_neg hk]
          exact .lst (by rw [upd_ne fun z => nd'.1 (by rw [z]; exact h2)]; exact hx) r0 hi (h6 ys fs r hf)
theorem StAt.at_ {K : PySem.W.Frag} {F H : Hp} {p : Addr} {m : MSt} {S : List Addr} {x : Str} {es : List D} (h : StAt K F H p m S) (e : fget m.1 m.2 x = some (.lst es)) :
    ∃ ws a xs, H p = some (.dK (kvK m.1 ws)) ∧ fget m.1 ws x = some (.ref a) ∧ a ∈ S ∧ H a = some (.lst xs) ∧ RpAll K F xs es ∧ D.imms es = true ∧
      ∀ ys fs, RpAll K F ys fs → D.imms fs = true → StAt K F (upd H a (.lst ys)) p (m.1, fset m.1 m.2 x (.lst fs)) S := by
  obtain ⟨ws, S0, rfl, h1, hl, h2⟩ := h.ex
  have nd := List.nodup_cons.mp h.nd
  obtain ⟨a, xs, k1, k2, k3, k4, k5, k6⟩ := h2.at_ nd.2 m.1 h.nk e
  refine ⟨ws, a, xs, h1, k1, List.mem_cons_of_mem _ k2, k3, k4, k5, fun ys fs r hf => ⟨⟨ws, S0, rfl, ?_, hl, k6 ys fs r hf⟩, h.nd, h.out, h.nk⟩⟩
  rw [upd_ne fun z => nd.1 (by rw [z]; exact k2)]; exact h1
end
end DN
namespace DN
open PySem PySem.Spec PyProof.Rows L2
open LamX (Tabs ExtN)

/-! ### procedures and makers -/
section
variable {K : PySem.W.Frag} {T : List (Addr × Str)} {W : WX} {F0 G F H F1 H1 : Hp} {σ : L2.St} {ρ : Rho} {i : Nat} {p : Addr} {m m' : MSt} {S S' : List Addr} {Z : Ends}
end
section
variable {X : Cx} {T : List (Addr × Str)} {W : WX} {F0 G : Hp} {i : Nat}
end
/-! a def whose body goes over to M-mode: for every address p -/
section
variable {P : Program} {w : World} {K : PySem.W.Frag} {mg : Str → Option Value} {base : Heap} {T : List (Addr × Str)} {k : Nat} {x qual : Str} {params : Arguments} {body : List Stmt} {scope : Scope} {kws : List (Str × V)} {f : Addr} {fd : FuncData} {N ps : List Str} {n i : Nat} {s : Rho → Addr → SM}
end
section
variable {X : Cx} {T : List (Addr × Str)} {W : WX} {F0 H0 : Hp} {i : Nat}
end
end DN
/-! M-mode: for, update, a state made by a display or by dict(pairs); own lists by +, * and by choice -/
namespace DN
open PySem PySem.Spec PyProof.Rows L2
open LamX (Tabs ExtN)

section
variable {X : Cx} {T : List (Addr × Str)} {W : WX} {F0 G : Hp} {i : Nat}
end
/-! ### own lists by + and *, and one of two -/
section
variable {X : Cx} {T : List (Addr × Str)} {W : WX} {F0 G : Hp} {i : Nat}
end
end DN
namespace DN
open PySem PySem.Spec PyProof.Rows L2
open LamX (Tabs ExtN)
section
variable {X : Cx} {T : List (Addr × Str)} {W : WX} {F0 G : Hp} {i : Nat}
theorem aftO.mono {K : PySem.W.Frag} {σ : L2.St} {F H F1 H1 : Hp} {Q : V → Hp → Prop} {r : Res D} (n : Nx T F H F1 H1) (h : aftO K T W σ F H Q r) : aftO K T W σ F1 H1 Q r := by
  cases r with
  | ok d =>
    cases d with
    | lst ds => exact fun p vs F' H' n2 hp hx rx fr => h p vs F' H' (n.trans n2) hp hx rx (back_tbl n.h fr)
    | _ => exact h
  | ex m => exact fun F' H' n2 => h F' H' (n.trans n2)
  | bad => exact h
end
end DN
/-! M-mode: the state's update; a state made by a display -/
namespace DN
open PySem PySem.Spec PyProof.Rows L2
open LamX (Tabs ExtN)
/-! ### a field put, there or not -/
section
variable {K : PySem.W.Frag} {T : List (Addr × Str)} {W : WX} {F0 G F H F1 H1 : Hp} {σ : L2.St} {ρ : Rho} {i : Nat} {p : Addr} {m m' : MSt} {S S' : List Addr} {Z : Ends}
theorem StAt.kvs (h : StAt K F H p m S) : ∃ ws, H p = some (.dK (kvK m.1 ws)) ∧ m.1.length = ws.length := by
  obtain ⟨ws, S0, _, h1, hl, _⟩ := h.ex
  exact ⟨ws, h1, hl⟩
theorem upd_upd {a : Addr} {o o' : HO} : upd (upd H a o) a o' = upd H a o' := by
  funext b
  by_cases e : b = a
  · subst e; rw [upd_same, upd_same]
  · rw [upd_ne e, upd_ne e, upd_ne e]
end
section
variable {X : Cx} {T : List (Addr × Str)} {W : WX} {F0 G : Hp} {i : Nat}
end
/-! ### a state made by a display -/
section
variable {X : Cx} {T : List (Addr × Str)} {W : WX} {F0 G : Hp} {i : Nat}
end
end DN
/-! list(zip(a, b)): every pair that was handed out is still held by the list -/
namespace DN
open PySem PySem.Spec PyProof.Rows L2
open LamX (Tabs ExtN)
namespace LZ
/-- a zip whose pair T is out -/
abbrev Out (h : Heap) (z TI TO T : Addr) (f : Bool) : Prop := h.get? z = some { cls := .type "zip", data := .fields #[rawInt T, .bool f, .bool false, .ref TI, .ref TO] }
section
variable {prog : Program} {w : World} {A : Around} {E : Value → Shared → Prop} {s : Shared} {z TI TO i1 i2 T : Addr} {fp1 fp2 : List Addr} {n1 n2 i : Nat} {P1 P2 : Nat → Value → Prop} {St1 St2 : Nat → Heap → Prop} {a1 a2 : Value} {f : Bool}
/-- the zip's look at its own pair: it is held elsewhere, and the zip marks that -/
theorem own_out {Q : Bool → Shared → Prop} (hz : Out s.heap z TI TO T f) (hT : ∃ o, s.heap.get? T = some o)
    (hQ : ∀ h', Out h' z TI TO T true → Heap.SameBut z s.heap h' → Q false { s with heap := h' }) : wpAny (model prog w) A (Builtin.SmallTypes.ownedTupleIsFree (.ref z)) Q E s :=
  hT.elim fun _ t => PySem.wpAny_tupleHeld_zip hz t hQ
theorem body_out {Q : PySem.Fin → Shared → Prop} (S : ZipSep2 z TI TO i1 i2 fp1 fp2) (D1 : Draws prog w A i1 fp1 n1 P1 St1) (D2 : Draws prog w A i2 fp2 n2 P2 St2) (hz : Out s.heap z TI TO T f) (hT : ∃ o, s.heap.get? T = some o) (hI : IsTupOf2 s.heap TI (.ref i1) (.ref i2)) (st1 : St1 i s.heap) (st2 : St2 i s.heap) (l1 : i < n1) (l2 : i < n2)
    (hQ : ∀ x1 x2 h' tk, P1 i x1 → P2 i x2 → Out h' z TI TO T true → St1 (i + 1) h' → St2 (i + 1) h' → IsTupOf2 h' s.heap.objs.size x1 x2 → (∀ c o, c ≠ z → c ≠ i1 → c ≠ i2 → s.heap.get? c = some o → h'.get? c = some o) → Q (.done (.ret (.ref s.heap.objs.size))) { s with heap := h', toks := tk }) :
    wpAny (model prog w) A (Builtin.«zip.__next__» ⟨[.ref z], []⟩) Q E s := by
  have f2 : ∀ {R : Value → Shared → Prop}, R (.bool false) s → wpAny (model prog w) A (field (.ref z) 2) R E s := fun q => wpAny_field hz rfl rfl q
  have f3 : ∀ {R : Value → Shared → Prop}, R (.ref TI) s → wpAny (model prog w) A (field (.ref z) 3) R E s := fun q => wpAny_field hz rfl rfl q
  unfold Builtin.«zip.__next__»
  wp_walk using f2, f3, wpAny_seqItems hI rfl, own_out hz hT
  intro g0 hz0 b0
  have k1 := D1.over st1 b0 S.zf1
  have k2 := D2.over st2 b0 S.zf2
  have d1 : ∀ {R : Value → Shared → Prop}, (∀ x h' tk, P1 i x → St1 (i + 1) h' → Heap.SameBut i1 g0 h' → R x { s with heap := h', toks := tk }) → wpAny (model prog w) A (Builtin.SmallTypes.nextOf (.ref i1)) R E { s with heap := g0 } := fun k => D1.item i { s with heap := g0 } _ E l1 k1 k
  have d2 : ∀ {R : Value → Shared → Prop} (h : Heap) (tk : Nat), St2 i h → (∀ x h' tk, P2 i x → St2 (i + 1) h' → Heap.SameBut i2 h h' → R x { s with heap := h', toks := tk }) → wpAny (model prog w) A (Builtin.SmallTypes.nextOf (.ref i2)) R E { s with heap := h, toks := tk } :=
    fun h tk k2 k => D2.item i { s with heap := h, toks := tk } _ E l2 k2 k
  simp only [Bool.false_eq_true, if_false, ← Array.forIn_toList, List.forIn_cons, List.forIn_nil]
  wp_walk using d1
  intro x1 g1 t1 y1 m1 b1
  wp_walk using d2 g1 t1 (D2.over k2 b1 S.sep1_2)
  intro x2 g2 t2 y2 m2 b2
  wp_walk using wpAny_newTuple
  case hsz => exact (by decide : 2 ≤ sizeLine)
  have size : g2.objs.size = s.heap.objs.size := b2.1.trans (b1.1.trans b0.1)
  have still : ∀ c o, c ≠ i1 → c ≠ i2 → g0.get? c = some o → (g2.push { cls := .type "tuple", data := .seq #[x1, x2] }).get? c = some o := fun c o c1 c2 e => Heap.get?_push_of_some _ (b2.extBut _ _ c2 (b1.extBut _ _ c1 e))
  have made := Heap.get?_push_size g2 (o := { cls := .type "tuple", data := .seq #[x1, x2] }) rfl
  show Q (.done (.ret (.ref g2.objs.size))) _
  rw [size] at made ⊢
  exact hQ x1 x2 _ t2 y1 y2 (still _ _ S.zi1 S.zi2 hz0) (D1.frame _ _ _ (D1.over m1 b2 S.sep2_1) fun _ _ _ => Heap.get?_push_of_some _) (D2.frame _ _ _ m2 fun _ _ _ => Heap.get?_push_of_some _) made fun c o c0 c1 c2 e => still c o c1 c2 (b0.extBut _ _ c0 e)
/-- one more pair -/
theorem next_out {Q : Option Value → Shared → Prop} (S : ZipSep2 z TI TO i1 i2 fp1 fp2) (D1 : Draws prog w A.in1 i1 fp1 n1 P1 St1) (D2 : Draws prog w A.in1 i2 fp2 n2 P2 St2) (hz : Out s.heap z TI TO T f) (hT : ∃ o, s.heap.get? T = some o) (hI : IsTupOf2 s.heap TI (.ref i1) (.ref i2)) (st1 : St1 i s.heap) (st2 : St2 i s.heap) (l1 : i < n1) (l2 : i < n2)
    (hQ : ∀ x1 x2 h' tk, P1 i x1 → P2 i x2 → Out h' z TI TO T true → St1 (i + 1) h' → St2 (i + 1) h' → IsTupOf2 h' s.heap.objs.size x1 x2 → (∀ c o, c ≠ z → c ≠ i1 → c ≠ i2 → s.heap.get? c = some o → h'.get? c = some o) → Q (some (.ref s.heap.objs.size)) { s with heap := h', toks := tk }) :
    wpAny (model prog w) A (pyNext (.ref z)) Q E s := by
  have ty : s.TypeIs (.ref z) "zip" := ⟨_, hz, rfl⟩
  unfold pyNext
  refine wpAny_bind (wpAny_attempt (wpAny_callSpecial?_slot (name := Str.ofString "__next__") ty F.slot_zip_next (wpAny_call_entry F.slot_zip_next ty F.entry_zip_next
    (body_out S D1 D2 hz hT hI st1 st2 l1 l2 fun x1 x2 h' tk p1 p2 o m1 m2 t k => ⟨_, rfl, wpAny_pure (hQ x1 x2 h' tk p1 p2 o m1 m2 t k)⟩) (F.args_zip_next_1 _))))
/-- one of the two is at its end: the zip hands its end on -/
theorem body_end {Q : PySem.Fin → Shared → Prop} (S : ZipSep2 z TI TO i1 i2 fp1 fp2) (D1 : Draws prog w A i1 fp1 n1 P1 St1) (D2 : Draws prog w A i2 fp2 n2 P2 St2) (hz : Out s.heap z TI TO T f) (hT : ∃ o, s.heap.get? T = some o) (hI : IsTupOf2 s.heap TI (.ref i1) (.ref i2)) (st1 : St1 i s.heap) (st2 : St2 i s.heap) (l1 : i ≤ n1) (l2 : i ≤ n2) (le : i = n1 ∨ i = n2)
    (hE : ∀ (e : Addr) h' tk, (∃ o, h'.get? e = some o ∧ o.cls = .type "StopIteration") → (∀ c o, c ≠ z → c ≠ i1 → c ≠ i2 → s.heap.get? c = some o → h'.get? c = some o) → E (.ref e) { s with heap := h', toks := tk }) :
    wpAny (model prog w) A (Builtin.«zip.__next__» ⟨[.ref z], []⟩) Q E s := by
  have f2 : ∀ {R : Value → Shared → Prop}, R (.bool false) s → wpAny (model prog w) A (field (.ref z) 2) R E s := fun q => wpAny_field hz rfl rfl q
  have f3 : ∀ {R : Value → Shared → Prop}, R (.ref TI) s → wpAny (model prog w) A (field (.ref z) 3) R E s := fun q => wpAny_field hz rfl rfl q
  unfold Builtin.«zip.__next__»
  wp_walk using f2, f3, wpAny_seqItems hI rfl, own_out hz hT
  intro g0 hz0 b0
  have k1 := D1.over st1 b0 S.zf1
  have k2 := D2.over st2 b0 S.zf2
  simp only [Bool.false_eq_true, if_false, ← Array.forIn_toList, List.forIn_cons, List.forIn_nil]
  by_cases last : i = n1
  · have d1 : ∀ {R : Value → Shared → Prop}, wpAny (model prog w) A (Builtin.SmallTypes.nextOf (.ref i1)) R E { s with heap := g0 } :=
      fun {R} => D1.done { s with heap := g0 } R E (last ▸ k1) fun h' e b x => hE e h' s.toks x fun c o c0 c1 _ y => b _ _ c1 (b0.extBut _ _ c0 y)
    wp_walk using d1
  · have d1 : ∀ {R : Value → Shared → Prop}, (∀ x h' tk, P1 i x → St1 (i + 1) h' → Heap.SameBut i1 g0 h' → R x { s with heap := h', toks := tk }) → wpAny (model prog w) A (Builtin.SmallTypes.nextOf (.ref i1)) R E { s with heap := g0 } :=
      fun k => D1.item i { s with heap := g0 } _ E (by omega) k1 k
    wp_walk using d1
    intro x1 g1 t1 y1 m1 b1
    have d2 : ∀ {R : Value → Shared → Prop}, wpAny (model prog w) A (Builtin.SmallTypes.nextOf (.ref i2)) R E { s with heap := g1, toks := t1 } :=
      fun {R} => D2.done { s with heap := g1, toks := t1 } R E (le.resolve_left last ▸ D2.over k2 b1 S.sep1_2) fun h' e b x => hE e h' t1 x fun c o c0 c1 c2 y => b _ _ c2 (b1.extBut _ _ c1 (b0.extBut _ _ c0 y))
    wp_walk using d2
theorem end_out {Q : Option Value → Shared → Prop} (S : ZipSep2 z TI TO i1 i2 fp1 fp2) (D1 : Draws prog w A.in1 i1 fp1 n1 P1 St1) (D2 : Draws prog w A.in1 i2 fp2 n2 P2 St2) (hz : Out s.heap z TI TO T f) (hT : ∃ o, s.heap.get? T = some o) (hI : IsTupOf2 s.heap TI (.ref i1) (.ref i2)) (st1 : St1 i s.heap) (st2 : St2 i s.heap) (l1 : i ≤ n1) (l2 : i ≤ n2) (le : i = n1 ∨ i = n2)
    (hQ : ∀ h' tk, (∀ c o, c ≠ z → c ≠ i1 → c ≠ i2 → s.heap.get? c = some o → h'.get? c = some o) → Q none { s with heap := h', toks := tk }) :
    wpAny (model prog w) A (pyNext (.ref z)) Q E s := by
  have ty : s.TypeIs (.ref z) "zip" := ⟨_, hz, rfl⟩
  unfold pyNext
  refine wpAny_bind (wpAny_attempt (wpAny_callSpecial?_slot (name := Str.ofString "__next__") ty F.slot_zip_next (wpAny_call_entry F.slot_zip_next ty F.entry_zip_next
    (body_end S D1 D2 hz hT hI st1 st2 l1 l2 le fun e h' tk ⟨o, ho, hc⟩ k => ?_) (F.args_zip_next_1 _))))
  exact wpAny_bind (wpAny_isInstance (T := "StopIteration") (b := true) ⟨o, ho, hc⟩ isSubtype_stop (wpAny_pure (hQ h' tk k)))
/-- behind i pairs, which stand at as -/
structure At (z TI TO i1 i2 lo : Addr) (P1 P2 : Nat → Value → Prop) (St1 St2 : Nat → Heap → Prop) (h : Heap) (i : Nat) (as : List Addr) : Prop where
  own : (i = 0 ∧ IsZip h z TI TO .none ∧ ∃ a b, IsTupOf2 h TO a b) ∨ ∃ T f, Out h z TI TO T f ∧ T ∈ as
  ti : IsTupOf2 h TI (.ref i1) (.ref i2)
  s1 : St1 i h
  s2 : St2 i h
  len : as.length = i
  up : as.Pairwise (· < ·)
  lo_le : lo ≤ h.objs.size
  new : ∀ a ∈ as, lo ≤ a
  two : ∀ j a, as[j]? = some a → ∃ x y, IsTupOf2 h a x y ∧ P1 j x ∧ P2 j y
/-- how the cells lie -/
structure Far (z TI TO i1 i2 lo L : Addr) (fp1 fp2 : List Addr) : Prop where
  sep : ZipSep2 z TI TO i1 i2 fp1 fp2
  hz : z < lo
  hti : TI < lo
  hto : TO < lo
  ha : i1 < lo
  hb : i2 < lo
  hl : L < lo
  lz : L ≠ z
  lt : L ≠ TI
  lo_ : L ≠ TO
  l1 : L ∉ fp1
  l2 : L ∉ fp2
theorem At.grow {lo L : Addr} {h h1 h2 : Heap} {as : List Addr} {x y : Value} {T' : Addr} {f' : Bool} (fr : Far z TI TO i1 i2 lo L fp1 fp2) (D1 : Draws prog w A i1 fp1 n1 P1 St1) (D2 : Draws prog w A i2 fp2 n2 P2 St2) (g : At z TI TO i1 i2 lo P1 P2 St1 St2 h i as)
    (k1 : ∀ c o, c ≠ z → c ≠ TO → c ≠ i1 → c ≠ i2 → h.get? c = some o → h1.get? c = some o) (t : IsTupOf2 h1 h.objs.size x y) (o1 : Out h1 z TI TO T' f') (hT' : T' ∈ as ++ [h.objs.size]) (m1 : St1 (i + 1) h1) (m2 : St2 (i + 1) h1) (p1 : P1 i x) (p2 : P2 i y)
    (k2 : ∀ c o, c ≠ L → h1.get? c = some o → h2.get? c = some o) (sz : h1.objs.size ≤ h2.objs.size) : At z TI TO i1 i2 lo P1 P2 St1 St2 h2 (i + 1) (as ++ [h.objs.size]) := by
  have far : ∀ c, lo ≤ c → c ≠ z ∧ c ≠ TO ∧ c ≠ i1 ∧ c ≠ i2 ∧ c ≠ L := fun c hc => ⟨Nat.ne_of_gt (Nat.lt_of_lt_of_le fr.hz hc), Nat.ne_of_gt (Nat.lt_of_lt_of_le fr.hto hc), Nat.ne_of_gt (Nat.lt_of_lt_of_le fr.ha hc), Nat.ne_of_gt (Nat.lt_of_lt_of_le fr.hb hc), Nat.ne_of_gt (Nat.lt_of_lt_of_le fr.hl hc)⟩
  have t2 : IsTupOf2 h2 h.objs.size x y := k2 _ _ (far _ g.lo_le).2.2.2.2 t
  refine ⟨.inr ⟨T', f', k2 _ _ fr.lz.symm o1, hT'⟩, k2 _ _ fr.lt.symm (k1 _ _ fr.sep.TIz fr.sep.TITO fr.sep.TIi1 fr.sep.TIi2 g.ti), D1.frame _ _ _ m1 fun b hb o e => k2 b o (fun q => fr.l1 (q ▸ hb)) e, D2.frame _ _ _ m2 fun b hb o e => k2 b o (fun q => fr.l2 (q ▸ hb)) e, by rw [List.length_append, g.len]; rfl, ?_, ?_, fun a ha => ?_, fun j a hj => ?_⟩
  · refine List.pairwise_append.mpr ⟨g.up, by simp, fun a ha b hb => ?_⟩
    simp at hb
    subst hb
    obtain ⟨j, hj⟩ := List.mem_iff_getElem?.mp ha
    obtain ⟨x, y, q, _⟩ := g.two j a hj
    exact Heap.lt_size q
  · exact Nat.le_trans (Nat.le_of_lt (Nat.lt_of_le_of_lt g.lo_le (Heap.lt_size t))) sz
  · rcases List.mem_append.mp ha with q | q
    · exact g.new a q
    · simp at q; subst q; exact g.lo_le
  · rw [List.getElem?_append] at hj
    split at hj
    · obtain ⟨x', y', q, r⟩ := g.two j a hj
      obtain ⟨c1, c2, c3, c4, c5⟩ := far a (g.new a (List.mem_of_getElem? hj))
      exact ⟨x', y', k2 _ _ c5 (k1 _ _ c1 c2 c3 c4 q), r⟩
    · rename_i hge
      rw [g.len] at hge hj
      have hji : j = i := by
        have := (List.getElem?_eq_some_iff.mp hj).1
        simp at this
        omega
      subst hji
      rw [Nat.sub_self] at hj
      cases hj
      exact ⟨x, y, t2, p1, p2⟩
abbrev lst (xs : List Value) (c : Nat) : Obj := { cls := .type "list", dict := none, data := .seq xs.toArray c, slots := #[] }
theorem loop {R : Result → Shared → Prop} {lo L : Addr} {res : Value} (fr : Far z TI TO i1 i2 lo L fp1 fp2) (D1 : Draws prog w A.in1.in1 i1 fp1 n1 P1 St1) (D2 : Draws prog w A.in1.in1 i2 fp2 n2 P2 St2) (hn : min n1 n2 ≤ sizeLine) :
    ∀ (k i : Nat) (s : Shared) (as : List Addr) (c : Nat), i + k = min n1 n2 → At z TI TO i1 i2 lo P1 P2 St1 St2 s.heap i as → s.heap.get? L = some (lst (as.map .ref) c) →
      (∀ (h' : Heap) (tk : Nat) (bs : List Addr) (c' : Nat), (∀ b o, b < lo → b ≠ z → b ≠ TO → b ≠ i1 → b ≠ i2 → b ≠ L → s.heap.get? b = some o → h'.get? b = some o) → h'.get? L = some (lst (bs.map .ref) c') → bs.length = min n1 n2 → bs.Pairwise (· < ·) → (∀ a ∈ bs, lo ≤ a) →
        (∀ j a, bs[j]? = some a → ∃ x y, IsTupOf2 h' a x y ∧ P1 j x ∧ P2 j y) → R (.ok (.ret res)) { s with heap := h', toks := tk }) →
      codeAny (model prog w) A (.builtin "list.extend.loop" ⟨[.ref L, .ref z, res], []⟩) R s := by
  intro k
  induction k with
  | zero =>
    intro i s as c hk g hL hR
    refine codeAny_builtin F.entry_extend_loop ?_
    rw [Around.under_plainId F.plain_extend_loop _]
    show wpAny _ A.in1 (pyNext (.ref z) >>= _) _ _ s
    have le : i = n1 ∨ i = n2 := by omega
    have fin : ∀ h' tk, (∀ c o, c ≠ z → c ≠ TO → c ≠ i1 → c ≠ i2 → s.heap.get? c = some o → h'.get? c = some o) → R (.ok (.ret res)) { s with heap := h', toks := tk } := fun h' tk kp => by
      refine hR h' tk as c (fun b o _ c1 c2 c3 c4 _ e => kp b o c1 c2 c3 c4 e) (kp _ _ fr.lz fr.lo_ (fun q => fr.l1 (q ▸ fr.sep.mem1)) (fun q => fr.l2 (q ▸ fr.sep.mem2)) hL) (by rw [g.len]; exact hk) g.up g.new fun j a hj => ?_
      obtain ⟨x, y, q, r⟩ := g.two j a hj
      have la := g.new a (List.mem_of_getElem? hj)
      exact ⟨x, y, kp _ _ (Nat.ne_of_gt (Nat.lt_of_lt_of_le fr.hz la)) (Nat.ne_of_gt (Nat.lt_of_lt_of_le fr.hto la)) (Nat.ne_of_gt (Nat.lt_of_lt_of_le fr.ha la)) (Nat.ne_of_gt (Nat.lt_of_lt_of_le fr.hb la)) q, r⟩
    rcases g.own with ⟨_, hz, a, b, ho⟩ | ⟨T, f, hz, hT⟩
    · exact wpAny_bind (wpAny_pyNext_zipD2_end fr.sep D1 D2 hz g.ti ho g.s1 g.s2 (by omega) (by omega) le fun h' tk kp => wpAny_pure (fin h' tk kp))
    · obtain ⟨j, hj⟩ := List.mem_iff_getElem?.mp hT
      obtain ⟨x, y, q, _⟩ := g.two j T hj
      exact wpAny_bind (end_out fr.sep D1 D2 hz ⟨_, q⟩ g.ti g.s1 g.s2 (by omega) (by omega) le fun h' tk kp => wpAny_pure (fin h' tk fun c o c1 _ c3 c4 e => kp c o c1 c3 c4 e))
  | succ k ih =>
    intro i s as c hk g hL hR
    refine codeAny_builtin F.entry_extend_loop ?_
    rw [Around.under_plainId F.plain_extend_loop _]
    show wpAny _ A.in1 (pyNext (.ref z) >>= _) _ _ s
    have go : ∀ (x y : Value) (h1 : Heap) (tk : Nat) (T' : Addr) (f' : Bool), P1 i x → P2 i y → Out h1 z TI TO T' f' → T' ∈ as ++ [s.heap.objs.size] → St1 (i + 1) h1 → St2 (i + 1) h1 → IsTupOf2 h1 s.heap.objs.size x y → (∀ c o, c ≠ z → c ≠ TO → c ≠ i1 → c ≠ i2 → s.heap.get? c = some o → h1.get? c = some o) →
        wpAny (model prog w) A.in1 (updateSeq L (·.push (.ref s.heap.objs.size)) >>= fun _ => again (.builtin "list.extend.loop" ⟨[.ref L, .ref z, res], []⟩))
          (fun fin s' => match fin with | .done f => R (.ok f) s' | .again c' => c'.quiet = true ∧ codeAny (model prog w) A c' R s') (fun e s' => R (.error e) s') { s with heap := h1, toks := tk } := fun x y h1 tk T' f' p1 p2 o1 hT' m1 m2 t kp => by
      have hL1 : h1.get? L = some (lst (as.map .ref) c) := kp _ _ fr.lz fr.lo_ (fun q => fr.l1 (q ▸ fr.sep.mem1)) (fun q => fr.l2 (q ▸ fr.sep.mem2)) hL
      have la : (as.map Value.ref).toArray.size = i := by rw [List.size_toArray, List.length_map, g.len]
      have g2 := g.grow (h2 := h1.update L (Obj.mapSeq (·.push (.ref s.heap.objs.size)))) fr D1 D2 kp t o1 hT' m1 m2 p1 p2 (fun c o hc e => (Heap.get?_update_other _ _ (Ne.symm hc)).trans e) (Nat.le_of_eq (Heap.SameBut.update ..).1.symm)
      refine wpAny_bind (wpAny_updateSeq hL1 rfl (wpAny_pure ⟨plainId_quiet F.plain_extend_loop _, ih (i + 1) _ (as ++ [s.heap.objs.size]) (c + 1) (by omega) g2 ?_ fun h' tk' bs c' q1 q2 q3 q4 q5 q6 => ?_⟩) (by rw [la]; omega) (by rw [Array.size_push, la]; omega))
      · have := Heap.get?_update_self (Obj.mapSeq (·.push (Value.ref s.heap.objs.size))) hL1 rfl
        rw [this]
        simp [Obj.mapSeq]
      · refine hR h' tk' bs c' (fun b o b0 b1 b2 b3 b4 b5 e => q1 b o b0 b1 b2 b3 b4 b5 ((Heap.get?_update_other _ _ (Ne.symm b5)).trans (kp b o b1 b2 b3 b4 e))) q2 q3 q4 q5 q6
    rcases g.own with ⟨i0, hz, a, b, ho⟩ | ⟨T, f, hz, hT⟩
    · exact wpAny_bind (wpAny_pyNext_zipD2_item fr.sep D1 D2 hz g.ti ho g.s1 g.s2 (by omega) (by omega) fun x y h1 tk p1 p2 o1 _ m1 m2 t _ kp => go x y h1 tk _ false p1 p2 o1 (by simp) m1 m2 t kp)
    · obtain ⟨j, hj⟩ := List.mem_iff_getElem?.mp hT
      obtain ⟨x, y, q, _⟩ := g.two j T hj
      exact wpAny_bind (next_out fr.sep D1 D2 hz ⟨_, q⟩ g.ti g.s1 g.s2 (by omega) (by omega) fun x y h1 tk p1 p2 o1 m1 m2 t kp => go x y h1 tk _ true p1 p2 o1 (List.mem_append_left _ hT) m1 m2 t fun c o c1 _ c3 c4 e => kp c o c1 c3 c4 e)
/-- a list's cell is written twice and stands as before -/
theorem touch {L : Addr} {xs : List Value} {c : Nat} {Q : Unit → Shared → Prop} (hL : s.heap.get? L = some (lst xs c)) (hx : xs.length + 1 ≤ sizeLine) (hQ : ∀ h' c', h'.get? L = some (lst xs c') → Heap.SameBut L s.heap h' → Q () { s with heap := h' }) : wpAny (model prog w) A (Builtin.List.listTouch (.ref L)) Q E s := by
  show wpAny _ _ (updateSeq L (·.push .none) >>= fun _ => updateSeq L (·.pop)) _ _ s
  refine wpAny_bind (wpAny_updateSeq hL rfl ?_ (by rw [List.size_toArray]; omega) (by rw [Array.size_push, List.size_toArray]; omega))
  have h1 := Heap.get?_update_self (Obj.mapSeq (·.push Value.none)) hL rfl
  have e1 : Obj.mapSeq (·.push Value.none) (lst xs c) = lst (xs ++ [.none]) (c + 1) := by simp [Obj.mapSeq]
  rw [e1] at h1
  refine wpAny_updateSeq h1 rfl (hQ _ (c + 2) ?_ ⟨(Heap.SameBut.update ..).1.trans (Heap.SameBut.update ..).1, fun b hb => ?_⟩) (by rw [List.size_toArray, List.length_append]; simp; omega) (by rw [Array.size_pop, List.size_toArray, List.length_append]; simp; omega)
  · rw [Heap.get?_update_self (Obj.mapSeq (·.pop)) h1 rfl]
    simp [Obj.mapSeq]
  · rw [Heap.get?_update_other _ _ (Ne.symm hb), Heap.get?_update_other _ _ (Ne.symm hb)]
end
end LZ
end DN
/-! list(zip(a, b)) and dict(pairs) by data -/
namespace DN
open PySem PySem.Spec PyProof.Rows L2
open LamX (Tabs ExtN)
section
variable {X : Cx} {T : List (Addr × Str)} {W : WX}
def Pr (H : Hp) : List Addr → List (V × V) → Prop := Paired fun t q => H t = some (.tup [q.1, q.2])
end
/-! ### by data -/
theorem Nx.many {T : List (Addr × Str)} {F H H' : Hp} {N : List Addr} (z : Fz F H) (kp : ∀ b o, H b = some o → H' b = some o) (hn : ∀ a ∈ N, H a = none) (hs : ∀ a ∈ N, ∃ o, H' a = some o ∧ ∀ ps, o ≠ .tbl ps) : Nx T F H (fun a => if a ∈ N then H' a else F a) H' := by
  refine ⟨fun a o e => ?_, ⟨fun a o e => ?_, fun a ps e => ?_⟩, fun b u e _ => kp b u e, fun a o e => ?_, fun t => t.ext fun b u e => kp b u e⟩
  · have : a ∉ N := fun q => by have := z.sub _ _ e; rw [hn a q] at this; cases this
    show (if a ∈ N then H' a else F a) = some o
    rw [if_neg this]; exact e
  · have e : (if a ∈ N then H' a else F a) = some o := e
    split at e
    · exact e
    · exact kp _ _ (z.sub _ _ e)
  · have e : (if a ∈ N then H' a else F a) = some (.tbl ps) := e
    split at e
    · rename_i q
      obtain ⟨o, h1, h2⟩ := hs a q
      rw [h1] at e
      exact h2 ps (Option.some.inj e)
    · exact z.nt _ _ e
  · have e : (if a ∈ N then H' a else F a) = some o := e
    split at e
    · rename_i q
      exact .inr fun o' e' => by rw [hn a q] at e'; cases e'
    · exact .inl e
theorem Pr.all {H' : Hp} : ∀ {ts : List Addr} {qs : List (V × V)}, Pr H' ts qs → ∀ t ∈ ts, ∃ vs, H' t = some (.tup vs)
  | _, _, .nil, t, h => by cases h
  | _, _, .cons h1 h2, t, h => by
    rcases List.mem_cons.mp h with e | e
    · rw [e]; exact ⟨_, h1⟩
    · exact Pr.all h2 t e
section
variable {X : Cx} {T : List (Addr × Str)} {W : WX} {F0 G : Hp} {i : Nat}
end
/-! ### dict(pairs) -/
section
variable {X : Cx} {T : List (Addr × Str)} {W : WX} {F0 G : Hp} {i : Nat}
end
end DN
/-! M-mode where a token is out -/
namespace DN
open PySem PySem.Spec PyProof.Rows L2
open LamX (Tabs ExtN)
section
variable {X : Cx} {T : List (Addr × Str)} {W : WX} {F0 G : Hp} {i : Nat}
end
/-! x = e (lent), then f(state, .. x ..) -/
section
variable {X : Cx} {T : List (Addr × Str)} {W : WX} {F0 G : Hp} {i : Nat}
end
end DN
/-! a law whose body goes over to M-mode; evaluating M-mode -/
namespace DN
open PySem PySem.Spec PyProof.Rows L2
open LamX (Tabs ExtN)
/-! ### evaluating -/
section
variable {i n : Nat} {ρ : Rho} {m : MSt} {p : Addr}
end
end DN
/-! a tuple taken once, or not at all -/
namespace DN
open PySem PySem.Spec PyProof.Rows L2
open LamX (Tabs ExtN)
section
variable {X : Cx} {T : List (Addr × Str)} {W : WX}
end
end DN
/-! enumerate of a tuple -/
namespace DN
open PySem PySem.Spec PyProof.Rows L2
/-! .. as data -/
open LamX (Tabs ExtN)
section
variable {X : Cx} {T : List (Addr × Str)} {W : WX}
end
end DN
/-! a lambda with one parameter, handed to a def: within the call it belongs to the base -/
namespace DN
open PySem PySem.Spec PyProof.Rows L2
open LamX (Tabs ExtN CodeO TabB)
open NdefX (NF NScope CellsAt Caps envF ncx startF)

/-! ### a part of a heap -/
open Classical in
noncomputable def only (h : Heap) (S : Addr → Prop) : Heap := ⟨h.objs.mapIdx fun i o => if S i then o else { o with data := .freed }, h.life⟩
/-! ### less is frozen -/
def Most (F G : Hp) : Prop := ∀ a o, F a = some o → (∀ φ, o ≠ .ext φ) → G a = some o
theorem Most.rd {F G : Hp} (m : Most F G) {a : Addr} {u : HO} (hu : ∀ φ, u ≠ .ext φ) (h : Rd F a u) : Rd G a u := by
  rcases h with h | ⟨o, h⟩
  · exact .inl (m _ _ h hu)
  · exact .inr ⟨o, m _ _ h fun φ z => by cases z⟩
mutual
theorem Rp.less {K : PySem.W.Frag} {F G : Hp} (m : Most F G) : ∀ {v : V} {d : D}, Rp K F v d → Rp K G v d
  | _, _, .non => .non
  | _, _, .bl b => .bl b
  | _, _, .int i => .int i
  | _, _, .str x => .str x
  | _, _, .fn x => .fn x
  | _, _, .ty n => .ty n
  | _, _, .lst h t => .lst (m _ _ h fun φ z => by cases z) (RpAll.less m t)
  | _, _, .tup h t => .tup (h.elim (fun h => .inl (m.rd (fun φ z => by cases z) h)) .inr) (RpAll.less m t)
  | _, _, .dK h => .dK (m _ _ h fun φ z => by cases z)
  | _, _, .dT ⟨od, h⟩ => .dT ⟨od, m _ _ h fun φ z => by cases z⟩
  | _, _, .arr h => .arr (h.elim (fun h => .inl (m.rd (fun φ z => by cases z) h)) .inr)
  | _, _, .pro ⟨o, h1, h2, h3⟩ => .pro ⟨o, h1, h2, m _ _ h3 fun φ z => by cases z⟩
  | _, _, .adr a => .adr a
  | _, _, .tab h1 h2 h3 t => .tab h1 (m _ _ h2 fun φ z => by cases z) h3 (RpAll.less m t)
  | _, _, .pw h => .pw (m _ _ h fun φ z => by cases z)
  | _, _, .frm ⟨o, h1, h2, h3⟩ t => .frm ⟨o, h1, h2, m _ _ h3 fun φ z => by cases z⟩ (RpAll.less m t)
theorem RpAll.less {K : PySem.W.Frag} {F G : Hp} (m : Most F G) : ∀ {vs : List V} {ds : List D}, RpAll K F vs ds → RpAll K G vs ds
  | _, _, .nil => .nil
  | _, _, .cons h t => .cons (Rp.less m h) (RpAll.less m t)
end
/-! ### the lambda in the base -/
structure LamB (base : Heap) (f c : Addr) (q : Str) (params : Arguments) (body : Expr) (scope : Scope) (cl : List (Str × Addr)) (y : Str) (n : Int) : Prop where
  fn : ∃ pm ctv, base.get? f = some (PySem.W.kla_obj "<lambda>" q params body scope cl pm c ctv)
  code : base.CodeRec (.ref c) q
  cells : ∀ z a, cl.lookup z = some a → ∃ v, base.IsCell a v
  inj : ∀ z z' a, cl.lookup z = some a → cl.lookup z' = some a → z = z'
  val : ∃ a t, cl.lookup y = some a ∧ base.IsCell a (some (.int n t))
theorem LamB.at {base h : Heap} {H : Hp} {f c : Addr} {q : Str} {params : Arguments} {body : Expr} {scope : Scope} {cl : List (Str × Addr)} {y : Str} {n : Int} (B : LamB base f c q params body scope cl y n) (k : ∀ b o, base.get? b = some o → h.get? b = some o ∧ H b = none) :
    CellsAt cl [y] [some (.int n)] h H := by
  refine ⟨rfl, fun z a e => ?_, B.inj, fun i z e => ?_⟩
  · obtain ⟨v, o, ho, hd⟩ := B.cells z a e
    exact ⟨(k _ _ ho).2, v, o, (k _ _ ho).1, hd⟩
  · cases i with
    | zero =>
      cases e
      obtain ⟨a, t, e1, o, ho, hd⟩ := B.val
      refine ⟨a, e1, fun v hv => ?_⟩
      cases hv
      exact ⟨.int n t, ⟨t, rfl⟩, o, (k _ _ ho).1, hd⟩
    | succ i => simp at e
/-! ### the call that hands it over -/
/-- .. shown again -/
def shown (H1 H' : Hp) (c P : Addr) : Hp := fun b => if b = c ∨ b = P then H1 b else H' b
section
variable {K : PySem.W.Frag} {P0 : Program} {w : World} {q : Str} {F H H1 H' F' : Hp} {c P : Addr} {h h' : Heap}
end
end DN
/-! R-mode: one slot holds a reader (an instance with the fields text, at), which calls change -/
namespace DN
open PySem PySem.Spec PyProof.Rows L2
open LamX (Tabs ExtN)

abbrev RSt := Str × Int
inductive RR (α : Type) where
  | ok (a : α) (m : RSt) | ex (n : Str) | bad
def RR.bind {α β : Type} : RR α → (α → RSt → RR β) → RR β
  | .ok a m, f => f a m
  | .ex n, _ => .ex n
  | .bad, _ => .bad
def rdO (K : PySem.W.Frag) (dx : Addr) (m : RSt) : HO := .ins (He.ga K "Reader") dx [("text", .str m.1), ("at", .int m.2)]
def RdAt (K : PySem.W.Frag) (H : Hp) (p : Addr) (m : RSt) : Prop := ∃ dx, H p = some (rdO K dx m)
theorem rdO_nt {K : PySem.W.Frag} {dx : Addr} {m : RSt} : ∀ ps, rdO K dx m ≠ .tbl ps := fun ps z => by unfold rdO at z; cases z
theorem rdO_tup {K : PySem.W.Frag} {dx : Addr} {m : RSt} : ∀ xs, rdO K dx m ≠ .tup xs := fun ps z => by unfold rdO at z; cases z
/-- H without p -/
def mask (H : Hp) (p : Addr) : Hp := fun b => if b = p then none else H b
theorem mask_of {H : Hp} {p b : Addr} (h : b ≠ p) : mask H p b = H b := if_neg h
structure Rg (K : PySem.W.Frag) (T : List (Addr × Str)) (F0 G F H : Hp) (σ : L2.St) (ρ : Rho) (i : Nat) (p : Addr) (m : RSt) : Prop where
  at_ : At K T F H σ ρ
  nx : Nx T F0 G F H
  no : ∀ (j : Nat) (d : D), ρ[j]? ≠ some (En.o d)
  me : σ[i]? = some (some (.ref p))
  st : RdAt K H p m
  fF : F p = none
  fG : ∀ o, G p = some o → ∃ ps, o = .tbl ps
def aftR {α β : Type} (R : Hp → α → β → Prop) (K : PySem.W.Frag) (T : List (Addr × Str)) (E : XK) (F0 G F : Hp) (i : Nat) (σ : L2.St) (ρ : Rho) (p : Addr) (Q : α → Hp → Prop) : RR β → Prop
  | .ok b m => ∀ a F' H', Rg K T F0 G F' H' σ ρ i p m → Sub F F' → R F' a b → Q a H'
  | .ex n => ∀ F' H', Nx T F0 G F' H' → Tabs T H' → Sub F F' → E (.ref (He.ga K n)) none H'
  | .bad => False
section
variable {K : PySem.W.Frag} {T : List (Addr × Str)} {E : XK} {F0 G F H F1 H1 : Hp} {σ : L2.St} {ρ : Rho} {i : Nat} {p : Addr} {m : RSt}
theorem Rg.step (g : Rg K T F0 G F H σ ρ i p m) (n : Nx T F H F1 H1) : Rg K T F0 G F1 H1 σ ρ i p m := by
  obtain ⟨dx, h⟩ := g.st
  exact ⟨g.at_.nx n, g.nx.trans n, g.no, g.me, ⟨dx, n.keep h rdO_nt⟩, n.out h rdO_nt g.fF rdO_tup, g.fG⟩
theorem aftR.mono {α β : Type} {R : Hp → α → β → Prop} {Q : α → Hp → Prop} {r : RR β} (e : Sub F F1) (h : aftR R K T E F0 G F i σ ρ p Q r) : aftR R K T E F0 G F1 i σ ρ p Q r := by
  cases r with
  | ok b m => exact fun a F' H' g s => h a F' H' g (e.trans s)
  | ex n => exact fun F' H' g t s => h F' H' g t (e.trans s)
  | bad => exact h
theorem aftR.bind {α β γ δ : Type} {R : Hp → α → β → Prop} {S : Hp → γ → δ → Prop} {Q : γ → Hp → Prop} {r : RR β} {k : β → RSt → RR δ} (h : aftR S K T E F0 G F i σ ρ p Q (r.bind k)) :
    aftR R K T E F0 G F i σ ρ p (fun a H1 => ∃ b m1 F1, Sub F F1 ∧ Rg K T F0 G F1 H1 σ ρ i p m1 ∧ R F1 a b ∧ aftR S K T E F0 G F1 i σ ρ p Q (k b m1)) r := by
  cases r with
  | ok b m => exact fun a F2 H2 g s ra => ⟨b, m, F2, s, g, ra, aftR.mono s h⟩
  | ex n => exact h
  | bad => exact h
theorem aftR.imp {α β : Type} {R : Hp → α → β → Prop} {Q Q' : α → Hp → Prop} {r : RR β} (h : aftR R K T E F0 G F i σ ρ p Q r) (hq : ∀ a H', Q a H' → Q' a H') : aftR R K T E F0 G F i σ ρ p Q' r := by
  cases r with
  | ok b m => exact fun a F' H' g s ra => hq a H' (h a F' H' g s ra)
  | ex n => exact h
  | bad => exact h
end
section
variable {X : Cx} {T : List (Addr × Str)} {E : XK} {F0 G : Hp} {i : Nat}
end
/-! ### statements -/
inductive SRR where
  | nx (ρ : Rho) (m : RSt) | rt (d : D) (m : RSt) | ex (n : Str) | bad
def bindRS {α : Type} (r : RR α) (k : α → RSt → SRR) : SRR := match r with
  | .ok a m => k a m
  | .ex n => .ex n
  | .bad => .bad
def aftRS (K : PySem.W.Frag) (T : List (Addr × Str)) (E : XK) (F0 G F : Hp) (i : Nat) (p : Addr) (Z : Ends) : SRR → Prop
  | .nx ρ m => ∀ σ F' H', Rg K T F0 G F' H' σ ρ i p m → Sub F F' → Z.nx σ H'
  | .rt d m => ∀ v F' H', Nx T F0 G F' H' → RdAt K H' p m → F' p = none → Rp K F' v d → Z.rt v H'
  | .ex n => ∀ F' H', Nx T F0 G F' H' → Tabs T H' → Sub F F' → E (.ref (He.ga K n)) none H'
  | .bad => False
section
variable {K : PySem.W.Frag} {T : List (Addr × Str)} {E : XK} {F0 G F H F1 H1 : Hp} {σ : L2.St} {ρ : Rho} {i : Nat} {p : Addr} {m : RSt} {Z : Ends}
theorem aftRS.mono {r : SRR} (e : Sub F F1) (h : aftRS K T E F0 G F i p Z r) : aftRS K T E F0 G F1 i p Z r := by
  cases r with
  | nx ρ m => exact fun σ F' H' g s => h σ F' H' g (e.trans s)
  | rt d m => exact h
  | ex n => exact fun F' H' g t s => h F' H' g t (e.trans s)
  | bad => exact h
theorem aftRS.bind {α β : Type} {R : Hp → α → β → Prop} {r : RR β} {k : β → RSt → SRR} (h : aftRS K T E F0 G F i p Z (bindRS r k)) :
    aftR R K T E F0 G F i σ ρ p (fun a H1 => ∃ b m1 F1, Sub F F1 ∧ Rg K T F0 G F1 H1 σ ρ i p m1 ∧ R F1 a b ∧ aftRS K T E F0 G F1 i p Z (k b m1)) r := by
  cases r with
  | ok b m => exact fun a F2 H2 g s ra => ⟨b, m, F2, s, g, ra, aftRS.mono s h⟩
  | ex n => exact h
  | bad => exact h
end
section
variable {X : Cx} {T : List (Addr × Str)} {E : XK} {F0 G : Hp} {i : Nat}
theorem Rg.put {K : PySem.W.Frag} {F H : Hp} {σ : L2.St} {ρ : Rho} {p : Addr} {m : RSt} {j : Nat} {v : V} {d : D} (g : Rg K T F0 G F H σ ρ i p m) (hj : j ≠ i) (r : Rp K F v d) : Rg K T F0 G F H (σ.set j (some v)) (ρ.set j (.z d)) i p m := by
  refine ⟨⟨g.at_.z, g.at_.t, g.at_.r.set r⟩, g.nx, fun k d' e => ?_, ?_, g.st, g.fF, g.fG⟩
  · rw [List.getElem?_set] at e
    split at e
    · split at e <;> cases e
    · exact g.no k d' e
  · rw [List.getElem?_set, if_neg hj]
    exact g.me
/-! self.at = e -/
theorem rdO_code {K : PySem.W.Frag} {dx a : Addr} {m : RSt} : ∀ q, rdO K dx m ≠ LamX.CodeO a q := fun q z => by unfold rdO LamX.CodeO at z; cases z
end
/-! ### methods -/
section
variable {K : PySem.W.Frag} {T : List (Addr × Str)} {E : XK} {F0 G F H F1 H1 : Hp} {σ : L2.St} {ρ : Rho} {i : Nat} {p : Addr} {m : RSt}
theorem mask_tabs (h : RdAt K H p m) (t : Tabs T H) : Tabs T (mask H p) := fun q hq => by
  obtain ⟨dx, h⟩ := h
  obtain ⟨ps, k1, k2, k3⟩ := t q hq
  refine ⟨ps, by rw [mask_of fun z => by rw [z, h] at k1; exact rdO_nt ps (Option.some.inj k1)]; exact k1, k2, fun pos cv hc => ?_⟩
  obtain ⟨c, e1, e2⟩ := k3 pos cv hc
  exact ⟨c, e1, by rw [mask_of fun z => by rw [z, h] at e2; exact rdO_code _ (Option.some.inj e2)]; exact e2⟩
/-- a call's changes behind what was there -/
theorem Nx.over (n1 : Nx T F0 G F H) (fG : ∀ o, G p = some o → ∃ ps, o = .tbl ps) (st : RdAt K H p m) (n2 : Nx T F (mask H p) F1 H1) : Nx T F0 G F1 H1 := by
  refine ⟨n1.f.trans n2.f, n2.z, fun b o e nt => ?_, fun a o e => ?_, fun t => n2.tab (mask_tabs st (n1.tab t))⟩
  · refine n2.h b o ?_ nt
    rw [mask_of fun z => by
      rw [z] at e
      obtain ⟨ps, w⟩ := fG o e
      exact nt ps w]
    exact n1.h b o e nt
  · rcases n2.new a o e with q | q
    · exact n1.new a o q
    · refine .inr fun o' e' => ?_
      by_cases w : ∃ ps, o' = .tbl ps
      · exact .inl w
      · refine q o' ?_
        rw [mask_of fun z => by
          rw [z] at e'
          exact w (fG o' e')]
        exact n1.h a o' e' fun ps z => w ⟨ps, z⟩
end
section
variable {X : Cx} {T : List (Addr × Str)} {E : XK} {F0 G : Hp} {i : Nat}
end
/-! ### a new reader -/
section
variable {X : Cx} {T : List (Addr × Str)} {E : XK} {F0 H0 : Hp}
end
end DN
/-! books: dicts whose keys are tuples of ints -/
namespace DN
open PySem PySem.Spec PyProof.Rows L2
open LamX (Tabs ExtN)
def kI (ks : List Int) : List Key := ks.map Sum.inl
def intsOf : List Key → Option (List Int)
  | [] => some []
  | .inl i :: r => (intsOf r).map fun l => i :: l
  | _ => none
def vInt : V → Option D
  | .int i => some (.int i)
  | _ => none
def getT : D → D → Option D
  | .dT kvs, .pw ks => (valV kvs (kI ks)).bind vInt
  | _, _ => none
section
variable {X : Cx} {T : List (Addr × Str)} {W : WX} {F0 H0 : Hp}
/-! ### the frame's own -/
theorem ntTd {kvs : List (List Key × V)} : ∀ ps, HO.dT kvs ≠ .tbl ps := fun ps z => by cases z
theorem dT_code {kvs : List (List Key × V)} {a : Addr} : ∀ q, HO.dT kvs ≠ LamX.CodeO a q := fun q z => by unfold LamX.CodeO at z; cases z
/-! ### made fast: from here on it is not changed -/
theorem OwnAt.sub {K : PySem.W.Frag} {F F' H : Hp} {p : Addr} (e : Sub F F') : ∀ {d : D}, OwnAt K F H p d → OwnAt K F' H p d
  | .lst _, ⟨xs, h, r⟩ => ⟨xs, h, r.mono e⟩
  | .dK _, h => h
  | .dT _, h => h
  | .dic _ _ _ _, ⟨es, h, r⟩ => ⟨es, h, r.mono e⟩
  | .ins _ _ _, ⟨dx, ws, h, r⟩ => ⟨dx, ws, h, r.mono e⟩
theorem Sg.fast {K : PySem.W.Frag} {F H : Hp} {σ : L2.St} {ρ : Rho} {i : Nat} {p : Addr} {kvs : List (List Key × V)} {od : Obj} (g : Sg K T F0 H0 F H σ ρ) (hi : ρ[i]? = some (.o (.dT kvs))) (hs : σ[i]? = some (some (.ref p))) (hp : F p = none) (hx : H p = some (.dT kvs)) :
    Sg K T F0 H0 (upd F p (.frz od (.dT kvs))) (upd H p (.frz od (.dT kvs))) σ (ρ.set i (.z (.dT kvs))) ∧ Sub F (upd F p (.frz od (.dT kvs))) := by
  have il : i < ρ.length := (List.getElem?_eq_some_iff.mp hi).1
  have ow := g.ow i _ p hi hs
  have sb : Sub F (upd F p (.frz od (.dT kvs))) := fun a o e => by rw [upd_ne fun z => by rw [z, hp] at e; cases e]; exact e
  have z1 : Fz (upd F p (.frz od (.dT kvs))) (upd H p (.frz od (.dT kvs))) := ⟨fun a o e => by
    by_cases ha : a = p
    · subst ha; rw [upd_same] at e ⊢; exact e
    · rw [upd_ne ha] at e ⊢; exact g.at_.z.sub _ _ e, fun a ps e => by
    by_cases ha : a = p
    · subst ha; rw [upd_same] at e; cases e
    · rw [upd_ne ha] at e; exact g.at_.z.nt _ _ e⟩
  refine ⟨⟨⟨z1, tabs_updG g.at_.t hx ntTd dT_code, ?_⟩, ⟨g.nx.f.trans sb, z1, fun b o eb no => ?_, fun a o e => ?_, fun t => tabs_updG (g.nx.tab t) hx ntTd dT_code⟩, fun j e q h1 h2 => ?_⟩, sb⟩
  · refine ⟨by rw [List.length_set]; exact g.at_.r.len, fun j e hj => ?_, fun j e hj => ?_, fun j k a b q1 q2 hn h1 h2 h3 h4 => ?_⟩
    · rw [List.getElem?_set] at hj
      by_cases hij : i = j
      · subst hij
        rw [if_pos rfl, if_pos il] at hj
        cases hj
        exact ⟨_, hs, .dT ⟨od, upd_same⟩⟩
      · rw [if_neg hij] at hj
        obtain ⟨v, e1, e2⟩ := g.at_.r.z j e hj
        exact ⟨v, e1, e2.mono sb⟩
    · rw [List.getElem?_set] at hj
      by_cases hij : i = j
      · subst hij
        rw [if_pos rfl, if_pos il] at hj
        cases hj
      · rw [if_neg hij] at hj
        obtain ⟨q, h1, h2, h3⟩ := g.at_.r.o j e hj
        have hne : p ≠ q := g.at_.r.ne i j _ _ p q hij hi hj hs h1
        exact ⟨q, h1, by rw [upd_ne (Ne.symm hne)]; exact h2, (h3.updN (Ne.symm hne)).sub sb⟩
    · have o1 : ∀ j e, (ρ.set i (.z (.dT kvs)))[j]? = some (En.o e) → ρ[j]? = some (En.o e) := fun j e h => by
        rw [List.getElem?_set] at h
        by_cases hij : i = j
        · subst hij
          rw [if_pos rfl, if_pos il] at h
          cases h
        · rw [if_neg hij] at h; exact h
      exact g.at_.r.ne j k a b q1 q2 hn (o1 j a h1) (o1 k b h2) h3 h4
  · rw [upd_ne fun z => by
      subst z
      obtain ⟨ps, k⟩ := ow o eb
      exact no ps k]
    exact g.nx.h _ _ eb no
  · by_cases ha : a = p
    · subst ha
      exact .inr fun o' e' => .inl (ow o' e')
    · rw [upd_ne ha] at e
      exact g.nx.new a o e
  · rw [List.getElem?_set] at h1
    by_cases hij : i = j
    · subst hij
      rw [if_pos rfl, if_pos il] at h1
      cases h1
    · rw [if_neg hij] at h1
      exact g.ow j e q h1 h2
end
end DN
/-! tuples of ints whose object is known: how they come to be, and how that is forgotten -/
namespace DN
open PySem PySem.Spec PyProof.Rows L2
open LamX (Tabs ExtN)
section
variable {X : Cx} {T : List (Addr × Str)} {W : WX}
end
end DN
/-! {k: v} with one key, a tuple of ints: a frozen book -/
namespace L2
open PySem PySem.Spec PyProof.Rows
end L2
namespace DN
open PySem PySem.Spec PyProof.Rows L2
open LamX (Tabs ExtN)
end DN
/-! dict(book): the keys' hashes are apart -/
namespace L2
open PySem PySem.Spec PyProof.Rows
def keyHashI (ks : List Int) : Int := reduceHash (Builtin.Tuple.tupleHashOf (ks.map hashInt))
end L2
namespace DN
open PySem PySem.Spec PyProof.Rows L2
open LamX (Tabs ExtN)
def keysI : List (List Key × V) → Option (List (List Int))
  | [] => some []
  | q :: r => (intsOf q.1).bind fun l => (keysI r).map fun ls => l :: ls
/-- the keys hash apart -/
def apart (kvs : List (List Key × V)) : Bool := match keysI kvs with
  | some ls => decide ((ls.map keyHashI).Nodup)
  | none => false
section
variable {X : Cx} {T : List (Addr × Str)} {W : WX} {F0 H0 : Hp}
end
end DN
/-! book == {} -/
namespace L2
open PySem PySem.Spec PyProof.Rows
end L2
namespace DN
open PySem PySem.Spec PyProof.Rows L2
open LamX (Tabs ExtN)
end DN
/-! sorted(book.items()) -/
namespace L2
open PySem PySem.Spec PyProof.Rows PySem.W
/-- a book's entries -/
abbrev Ent := List Int × Int
def encB (e : Ent) : PyData := .tuple [.tuple (e.1.map .int), .int e.2]
theorem reads_ints {h : Heap} : ∀ {ns : List Int} {us : List Value}, Vals (ns.map V.int) us → ReadsAll h us (ns.map .int) []
  | [], _, r => by cases r; exact .nil
  | n :: ns, _, r => by
    rw [List.map_cons] at r
    cases r with
    | cons h1 t =>
      obtain ⟨tk, rfl⟩ := h1
      exact .cons (as := []) (bs := []) (.int n tk) (reads_ints t)
section
variable {X : Cx}
/-- a pair that was made of a book's entry: its address, the entry, the key's address -/
abbrev Made1 := Addr × Ent × Addr
def Laid1 (H : Hp) (h : Heap) (z : Made1) : Prop := H z.2.2 = some (.tup (z.2.1.1.map V.int)) ∧ ∃ t, h.get? z.1 = some { cls := .type "tuple", data := .seq #[Value.ref z.2.2, Value.int z.2.1.2 t] }
/-- a pair read as data -/
theorem Laid1.reads {P : Program} {w : World} {H : Hp} {h0 h h' : Heap} {z : Made1} (ok : HOk P w H h0) (k0 : ∀ b o, h0.get? b = some o → h'.get? b = some o) (k : ∀ b o, h.get? b = some o → h'.get? b = some o) (l : Laid1 H h z) : Reads h' (.ref z.1) (encB z.2.1) [] := by
  obtain ⟨key, t, g⟩ := l
  obtain ⟨_, its, rv, ot, e, c, n, d⟩ := (show ObjOk P w H h0 z.2.2 (.tup (z.2.1.1.map V.int)) from ok _ _ key)
  have rk : Reads h' (.ref z.2.2) (.tuple (z.2.1.1.map .int)) [] := Reads.tuple (k0 _ _ e) c d (by simpa using reads_ints rv)
  exact Reads.tuple (k _ _ g) rfl rfl (.cons (as := []) (bs := []) rk (.cons (as := []) (bs := []) (.int _ _) .nil))
end
end L2
namespace L2
open PySem PySem.Spec PyProof.Rows
end L2
namespace DN
open PySem PySem.Spec PyProof.Rows L2
open LamX (Tabs ExtN)
def vNum : V → Option Int
  | .int n => some n
  | _ => none
def ents : List (List Key × V) → Option (List Ent)
  | [] => some []
  | q :: r => (intsOf q.1).bind fun l => (vNum q.2).bind fun n => (ents r).map fun es => (l, n) :: es
section
variable {X : Cx} {T : List (Addr × Str)} {W : WX}
end
end DN
/-! tuple(sorted(..)) with its object known; dict of such a tuple -/
namespace L2
open PySem PySem.Spec PyProof.Rows PySem.W
end L2
namespace DN
open PySem PySem.Spec PyProof.Rows L2
open LamX (Tabs ExtN)
section
variable {X : Cx} {T : List (Addr × Str)} {W : WX}
end
end DN
namespace DN
open PySem PySem.Spec PyProof.Rows L2 PySem.W
open LamX (Tabs ExtN)
end DN
namespace DN
end DN
/-! is, is not of two truths -/
namespace DN
open PySem PySem.Spec PyProof.Rows L2
end DN
/-! a tuple times any small number: none and once by DN42, more by DN1 -/
namespace DN
open PySem PySem.Spec PyProof.Rows L2
end DN
namespace LW
open PySem PySem.Spec PyProof.Rows L2 DN
open TL (numL numL_lt numL_step numL_digits numL_ne tl_num)

/-! ### figures of whole numbers -/
def figs (n : Nat) : Nat := (numL n).length
theorem figs_small {n : Nat} (h : n < 10) : figs n = 1 := by unfold figs; rw [numL_lt h]; rfl
theorem figs_step {n : Nat} (h : 10 ≤ n) : figs n = figs (n / 10) + 1 := by unfold figs; rw [numL_step h, List.length_append]; rfl
theorem figs_pos (n : Nat) : 1 ≤ figs n := by
  by_cases h : n < 10
  · rw [figs_small h]; exact Nat.le_refl 1
  · rw [figs_step (by omega)]; omega
theorem figs_lt : ∀ (n : Nat), n < 10 ^ figs n := fun n => by
  induction n using Nat.strongRecOn with
  | ind n ih =>
    by_cases h : n < 10
    · rw [figs_small h]; omega
    · have := ih (n / 10) (by omega)
      rw [figs_step (by omega), Nat.pow_succ]
      omega
theorem figs_ge : ∀ (n : Nat), 0 < n → 10 ^ (figs n - 1) ≤ n := fun n => by
  induction n using Nat.strongRecOn with
  | ind n ih =>
    intro h0
    by_cases h : n < 10
    · rw [figs_small h]
      show 10 ^ 0 ≤ n
      have : (10 : Nat) ^ 0 = 1 := rfl
      omega
    · have := ih (n / 10) (by omega) (by omega)
      rw [figs_step (by omega)]
      have h2 := figs_pos (n / 10)
      have e : figs (n / 10) + 1 - 1 = (figs (n / 10) - 1) + 1 := by omega
      rw [e, Nat.pow_succ]
      omega
theorem pow10_le {a b : Nat} (h : a ≤ b) : 10 ^ a ≤ 10 ^ b := Nat.pow_le_pow_right (by decide) h
theorem pow10_pos (a : Nat) : 0 < 10 ^ a := Nat.pow_pos (by decide)
theorem figs_le {n k : Nat} (hk : 1 ≤ k) (h : n < 10 ^ k) : figs n ≤ k := by
  by_cases h0 : n = 0
  · subst h0; rw [figs_small (by decide)]; exact hk
  · have h1 := figs_ge n (by omega)
    have h2 := figs_pos n
    by_cases hc : figs n ≤ k
    · exact hc
    · exfalso
      have := pow10_le (show k ≤ figs n - 1 by omega)
      omega
theorem str_tl (n : Nat) : (Str.ofString (toString (n : Int))).cps.toList = numL n := tl_num n
theorem str_tl_int {i : Int} (h : 0 ≤ i) : (Str.ofString (toString i)).cps.toList = numL i.natAbs := by
  obtain ⟨n, rfl⟩ : ∃ n : Nat, i = n := ⟨i.natAbs, by omega⟩
  rw [str_tl]; rfl
theorem str_len {i : Int} (h : 0 ≤ i) : (Str.ofString (toString i)).length = figs i.natAbs := by
  show (Str.ofString (toString i)).cps.size = _
  rw [← Array.length_toList, str_tl_int h]; rfl
theorem abs_if (i : Int) : (if i < 0 then -i else i) = (i.natAbs : Int) := by split <;> omega
/-- len(str(n)) -/
theorem lenstr {i : Int} (h : 0 ≤ i) (h2 : i.natAbs < 10 ^ 500) : strD [.int i] = some (.str (Str.ofString (toString i))) ∧ lenD [.str (Str.ofString (toString i))] = some (.int (figs i.natAbs)) := by
  have hp : (10 : Nat) ^ 500 < 2 ^ 1900 := by decide +kernel
  refine ⟨str_i (Nat.lt_trans h2 hp), ?_⟩
  rw [len_s, str_len h]
  rw [str_len h]
  have := figs_le (by decide) h2
  omega
end LW
namespace LW
open PySem PySem.Spec PyProof.Rows L2 DN
open TL (numL numL_lt numL_step numL_digits numL_ne tl_num)
/-! ### texts -/
theorem s_len (x : Str) : x.length = x.cps.toList.length := (Array.length_toList).symm
theorem app_tl (a b : Str) : (a ++ b).cps.toList = a.cps.toList ++ b.cps.toList := by
  show (a.cps ++ b.cps).toList = _
  simp
theorem repS_one (c : Nat) (k : Int) : (repS ⟨#[c]⟩ k).cps.toList = List.replicate k.toNat c := by
  unfold repS
  show ((List.replicate k.toNat [c]).flatten).toArray.toList = _
  rw [List.toList_toArray]
  induction k.toNat with
  | zero => rfl
  | succ n ih => rw [List.replicate_succ, List.flatten_cons, ih]; rfl
theorem one_s (c : Nat) (s : String) (h : Str.ofString s = ⟨#[c]⟩) (k : Int) : (repS (Str.ofString s) k).cps.toList = List.replicate k.toNat c := by rw [h]; exact repS_one c k
theorem mul_si {x : Str} {n : Int} (h : n ≤ 1000000 ∧ -1000000 ≤ n ∧ x.length * n.toNat ≤ 1000000) : mulD (.str x) (.int n) = some (.str (repS x n)) := by
  show (if n ≤ 1000000 ∧ -1000000 ≤ n ∧ x.length * n.toNat ≤ 1000000 then some (D.str (repS x n)) else none) = _
  rw [if_pos h]
/-- one sign so often -/
theorem mul_one {s : String} {n : Int} (c : Nat) (h : Str.ofString s = ⟨#[c]⟩) (h1 : n ≤ 1000000) (h2 : -1000000 ≤ n) : mulD (.str (Str.ofString s)) (.int n) = some (.str (repS (Str.ofString s) n)) := mul_si ⟨h1, h2, by
  rw [h]
  show 1 * n.toNat ≤ 1000000
  omega⟩
theorem add_ss {x y : Str} (h : x.length + y.length ≤ 1000000) : addD (.str x) (.str y) = some (.str (x ++ y)) := by
  show (if x.length + y.length ≤ sizeLine then some (D.str (x ++ y)) else none) = _
  rw [if_pos (by rw [sizeLine_eq]; omega)]
end LW
namespace LW
open PySem PySem.Spec PyProof.Rows L2 DN
open TL (numL numL_lt numL_step numL_digits numL_ne tl_num)
/-! ### numbers' texts -/
def S (l : List Nat) : Str := ⟨l.toArray⟩
theorem zero_s : Str.ofString "0" = ⟨#[48]⟩ := by decide +kernel
end LW
namespace LW
open PySem PySem.Spec PyProof.Rows L2 DN
/-! ### rounding, plainly -/
inductive Hw where | nought | more | even | away
  deriving DecidableEq
inductive Mn where | even | away | nought | up | down
  deriving DecidableEq
def Hw.s : Hw → Str
  | .nought => "nought" | .more => "more" | .even => "even" | .away => "away"
def Mn.s : Mn → Str
  | .nought => "nought" | .up => "up" | .down => "down" | .even => "even" | .away => "away"
def Mn.by : Mn → Bool → Hw
  | .up, false => .more | .up, true => .nought | .down, false => .nought | .down, true => .more | .even, _ => .even | .away, _ => .away | .nought, _ => .nought
def takenZ (h : Hw) (q r l : Int) : Int := if r = 0 then q else match h with
  | .nought => q
  | .more => q + 1
  | .even => if 2 * r = l then q + (if q % 2 = 1 then 1 else 0) else q + (if l < 2 * r then 1 else 0)
  | .away => if 2 * r = l then q + 1 else q + (if l < 2 * r then 1 else 0)
def strip : Nat → Int → Int → Int × Int
  | 0, a, b => (a, b)
  | n + 1, a, b => if a % 10 = 0 then strip n (a / 10) (b + 1) else (a, b)
def sgZ (bl : Bool) : Int := 1 - 2 * (if bl = true then 1 else 0)
def hgZ (s : Int × Int) : Int := s.2 + (figs s.1.natAbs : Int) - 1
def fitZ (h : Hw) (w p : Int) (bl : Bool) : Option (Int × Int) :=
  if 40 < hgZ (strip 5000 w p) then none else if hgZ (strip 5000 w p) < -40 then (if h = .more then some (sgZ bl, -40) else some (0, 0)) else some (sgZ bl * (strip 5000 w p).1, (strip 5000 w p).2)
def pw0 (U L : Nat) : Int := (figs U : Int) - (figs L : Int) - 8
def pwN (U L : Nat) : Int := if L * 10 ^ (pw0 U L).toNat * 10 ^ 8 ≤ U * 10 ^ (-(pw0 U L)).toNat then pw0 U L + 1 else pw0 U L
def exZ (m : Mn) (u l : Int) : Option (Int × Int) :=
  if u = 0 then some (0, 0) else
    let p := pwN u.natAbs l.natAbs
    let U : Int := (u.natAbs : Int) * 10 ^ (-p).toNat
    let L : Int := (l.natAbs : Int) * 10 ^ p.toNat
    let bl := decide (u < 0) != decide (l < 0)
    fitZ (m.by bl) (takenZ (m.by bl) (U / L) (U % L) L) p bl
theorem pow_add10 (a b : Nat) : (10 : Nat) ^ a * 10 ^ b = 10 ^ (a + b) := (Nat.pow_add 10 a b).symm
theorem pw_hi {U L : Nat} {p : Int} (hL : 0 < L) (hp : p = pw0 U L + 1) : U * 10 ^ (-p).toNat < L * 10 ^ p.toNat * 10 ^ 8 := by
  have h1 := figs_lt U
  have h2 := figs_ge L hL
  have h3 := figs_pos L
  unfold pw0 at hp
  have e : figs U + (-p).toNat = (figs L - 1) + p.toNat + 8 := by omega
  have a1 : U * 10 ^ (-p).toNat < 10 ^ figs U * 10 ^ (-p).toNat := Nat.mul_lt_mul_of_pos_right h1 (pow10_pos _)
  have a2 : 10 ^ (figs L - 1) * 10 ^ p.toNat * 10 ^ 8 ≤ L * 10 ^ p.toNat * 10 ^ 8 := Nat.mul_le_mul_right _ (Nat.mul_le_mul_right _ h2)
  rw [pow_add10, e] at a1
  rw [pow_add10, pow_add10] at a2
  omega
theorem pw_lo {U L : Nat} {p : Int} (hU : 0 < U) (hp : p = pw0 U L) : L * 10 ^ (p.toNat + 7) ≤ U * 10 ^ (-p).toNat := by
  have h1 := figs_lt L
  have h2 := figs_ge U hU
  have h3 := figs_pos U
  unfold pw0 at hp
  have e : (figs U - 1) + (-p).toNat = figs L + (p.toNat + 7) := by omega
  have a1 : L * 10 ^ (p.toNat + 7) < 10 ^ figs L * 10 ^ (p.toNat + 7) := Nat.mul_lt_mul_of_pos_right h1 (pow10_pos _)
  have a2 : 10 ^ (figs U - 1) * 10 ^ (-p).toNat ≤ U * 10 ^ (-p).toNat := Nat.mul_le_mul_right _ h2
  rw [pow_add10] at a1
  rw [pow_add10, e] at a2
  omega
theorem pw_same {U L : Nat} {p : Int} : (U * 10 ^ (-(p + 1)).toNat < L * 10 ^ ((p + 1).toNat + 7)) ↔ ¬ L * 10 ^ p.toNat * 10 ^ 8 ≤ U * 10 ^ (-p).toNat := by
  rw [Nat.not_le]
  by_cases h : 0 ≤ p
  · have e1 : (-(p + 1)).toNat = 0 := by omega
    have e2 : (-p).toNat = 0 := by omega
    have e3 : (p + 1).toNat + 7 = p.toNat + 8 := by omega
    rw [e1, e2, e3, Nat.pow_add, Nat.mul_assoc]
  · have e1 : (-p).toNat = (-(p + 1)).toNat + 1 := by omega
    have e2 : p.toNat = 0 := by omega
    have e3 : (p + 1).toNat + 7 = 7 := by omega
    have e4 : (10 : Nat) ^ ((-(p + 1)).toNat + 1) = 10 ^ (-(p + 1)).toNat * 10 := Nat.pow_succ _ _
    rw [e1, e2, e3, e4]
    generalize (10 : Nat) ^ (-(p + 1)).toNat = x
    have : U * (x * 10) = U * x * 10 := by rw [Nat.mul_assoc]
    rw [this]
    generalize U * x = y
    omega
theorem pw_low {U L : Nat} (hU : 0 < U) (hL : 0 < L) : L * 10 ^ (pwN U L).toNat * 10 ^ 7 ≤ U * 10 ^ (-(pwN U L)).toNat ∧ U * 10 ^ (-(pwN U L)).toNat < L * 10 ^ (pwN U L).toNat * 10 ^ 8 := by
  unfold pwN
  by_cases h : L * 10 ^ (pw0 U L).toNat * 10 ^ 8 ≤ U * 10 ^ (-(pw0 U L)).toNat
  · rw [if_pos h]
    refine ⟨?_, pw_hi hL rfl⟩
    have := (Decidable.not_iff_not.mpr (pw_same (U := U) (L := L) (p := pw0 U L))).mpr (fun z => z h)
    rw [Nat.not_lt, Nat.pow_add, ← Nat.mul_assoc] at this
    exact this
  · rw [if_neg h]
    have := pw_lo (L := L) hU rfl
    rw [Nat.pow_add, ← Nat.mul_assoc] at this
    exact ⟨this, by omega⟩
/-! the parts -/
theorem strip_pos : ∀ (n : Nat) (a b : Int), 0 < a → 0 < (strip n a b).1 ∧ (strip n a b).1 ≤ a ∧ b ≤ (strip n a b).2 ∧ (strip n a b).2 ≤ b + n
  | 0, a, b, h => ⟨h, Int.le_refl a, Int.le_refl b, by show b ≤ b + (0 : Nat); omega⟩
  | n + 1, a, b, h => by
    unfold strip
    by_cases h0 : a % 10 = 0
    · rw [if_pos h0]
      obtain ⟨h1, h2, h3, h4⟩ := strip_pos n (a / 10) (b + 1) (by omega)
      exact ⟨h1, by omega, by omega, by omega⟩
    · rw [if_neg h0]
      exact ⟨h, Int.le_refl a, Int.le_refl b, by show b ≤ b + ((n + 1 : Nat) : Int); omega⟩
theorem natAbs_mul_pow {u : Int} {n k : Nat} (h : u.natAbs < 10 ^ k) : (u * 10 ^ n).natAbs < 10 ^ (k + n) := by
  have e : ((10 : Int) ^ n).natAbs = 10 ^ n := by rw [Int.natAbs_pow]; rfl
  rw [Int.natAbs_mul, e, Nat.pow_add]
  exact Nat.mul_lt_mul_of_pos_right h (pow10_pos n)
theorem pow_z (n : Nat) : ((10 : Int) ^ n).natAbs = 10 ^ n := by rw [Int.natAbs_pow]; rfl
theorem mul_z {i j : Int} (h1 : i.natAbs < 10 ^ 2000) (h2 : j.natAbs < 10 ^ 2000) : mulD (.int i) (.int j) = some (.int (i * j)) := by
  have p : (10 : Nat) ^ 2000 ≤ 2 ^ 100000 := by decide +kernel
  exact mul_w (Nat.lt_of_lt_of_le h1 p) (Nat.lt_of_lt_of_le h2 p)
theorem div_z {i j : Int} (h : 0 < j) (h2 : j.natAbs < 10 ^ 2000) : divD (.int i) (.int j) = some (.int (i / j)) := by
  have p : (10 : Nat) ^ 2000 ≤ 2 ^ 8000 := by decide +kernel
  exact div_w h (Nat.lt_of_lt_of_le h2 p)
theorem mul_t {u : Int} {n : Nat} (h : u.natAbs < 10 ^ 1000) (hn : n ≤ 900) : mulD (.int u) (.int (10 ^ n)) = some (.int (u * 10 ^ n)) :=
  mul_z (Nat.lt_of_lt_of_le h (pow10_le (by decide))) (by rw [pow_z]; exact Nat.pow_lt_pow_right (by decide) (by omega))
theorem maxz (x : Int) : (if (0 : Int) > x then 0 else x) = (x.toNat : Int) := by split <;> omega
theorem pow_ge1 (n : Nat) : (1 : Int) ≤ 10 ^ n := by
  have : (0 : Int) < 10 ^ n := Int.pow_pos (by decide)
  omega
end LW
namespace LW
open PySem PySem.Spec PyProof.Rows L2 DN
/-! ### rounding over the fractions -/
def T (p : Int) : Rat := (10 : Rat) ^ p
theorem T_pos (p : Int) : 0 < T p := Rat.zpow_pos (by decide)
theorem T_add (a b : Int) : T (a + b) = T a * T b := Rat.zpow_add (by decide) a b
theorem T_zero : T 0 = 1 := Rat.zpow_zero 10
theorem T_one : T 1 = 10 := Rat.zpow_one 10
theorem T_nat (n : Nat) : T (n : Int) = ((10 ^ n : Int) : Rat) := by
  unfold T
  rw [Rat.zpow_natCast, Rat.intCast_pow]
  rfl
theorem T_neg (p : Int) : T p * T (-p) = 1 := by rw [← T_add, show p + -p = 0 by omega, T_zero]
theorem T_ge1 (n : Nat) : 1 ≤ T (n : Int) := by
  rw [T_nat]
  exact Rat.intCast_le_intCast.mpr (pow_ge1 n)
theorem T_mono {a b : Int} (h : a ≤ b) : T a ≤ T b := by
  obtain ⟨n, e⟩ := Int.eq_ofNat_of_zero_le (show 0 ≤ b - a by omega)
  have e2 : b = a + (n : Int) := by omega
  rw [e2, T_add]
  have := Rat.mul_le_mul_of_nonneg_left (T_ge1 n) (Rat.le_of_lt (T_pos a))
  rwa [Rat.mul_one] at this
theorem T_lt {a b : Int} (h : a < b) : T a < T b := by
  have h1 := T_mono (show a + 1 ≤ b by omega)
  have h2 := T_pos a
  rw [T_add, T_one] at h1
  grind
theorem T_lt_iff {a b : Int} : T a < T b ↔ a < b := ⟨fun h => by
  by_cases q : a < b
  · exact q
  · have := T_mono (show b ≤ a by omega)
    grind, T_lt⟩
theorem le_div {a b c : Rat} (hc : 0 < c) : a ≤ b / c ↔ a * c ≤ b := by rw [← Rat.not_lt, ← Rat.not_lt, Rat.div_lt_iff hc]
theorem mul_cancel {a b c : Rat} (hc : 0 < c) (h : a * c = b * c) : a = b := by
  have n : c ≠ 0 := fun z => by grind
  rw [← Rat.mul_div_cancel (a := a) n, h, Rat.mul_div_cancel n]
def vl (s : Int × Int) : Rat := (s.1 : Rat) * T s.2
/-- one power about a fraction above 0 -/
def PwOf (v : Rat) (p : Int) : Prop := T (p + 7) ≤ v ∧ v < T (p + 8)
theorem pw_uniq {v : Rat} {p q : Int} (h : PwOf v p) (g : PwOf v q) : p = q := by
  have a := T_lt_iff.mp (show T (p + 7) < T (q + 8) from by have := h.1; have := g.2; grind)
  have b := T_lt_iff.mp (show T (q + 7) < T (p + 8) from by have := h.2; have := g.1; grind)
  omega
theorem frac_T {U L : Nat} (hL : 0 < L) (p : Int) : ((U : Int) : Rat) / ((L : Int) : Rat) * T (-p) = (((U : Int) * 10 ^ (-p).toNat : Int) : Rat) / (((L : Int) * 10 ^ p.toNat : Int) : Rat) := by
  have hL' : (0 : Rat) < ((L : Int) : Rat) := Rat.intCast_pos.mpr (by omega)
  rw [Rat.intCast_mul, Rat.intCast_mul, ← T_nat, ← T_nat]
  have e : T (-p) * T (p.toNat : Int) = T ((-p).toNat : Int) := by rw [← T_add]; congr 1; omega
  have h1 := T_pos (p.toNat : Int)
  grind
theorem pw_R {U L : Nat} (hU : 0 < U) (hL : 0 < L) : PwOf (((U : Int) : Rat) / ((L : Int) : Rat)) (pwN U L) := by
  obtain ⟨h1, h2⟩ := pw_low hU hL
  have e := frac_T (U := U) hL (pwN U L)
  generalize pwN U L = p at *
  have lp : (0 : Rat) < (((L : Int) * 10 ^ p.toNat : Int) : Rat) := Rat.intCast_pos.mpr (Int.mul_pos (by omega) (by have := pow_ge1 p.toNat; omega))
  have t1 : (10 : Rat) ^ 7 ≤ ((U : Int) : Rat) / ((L : Int) : Rat) * T (-p) := by
    rw [e]
    have : (10 : Rat) ^ 7 * (((L : Int) * 10 ^ p.toNat : Int) : Rat) ≤ (((U : Int) * 10 ^ (-p).toNat : Int) : Rat) := by
      have : (((10 : Int) ^ 7 * ((L : Int) * 10 ^ p.toNat) : Int) : Rat) ≤ (((U : Int) * 10 ^ (-p).toNat : Int) : Rat) := by
        refine Rat.intCast_le_intCast.mpr ?_
        have := Int.ofNat_le.mpr h1
        simp only [Int.natCast_mul, Int.natCast_pow] at this
        rw [Int.mul_comm]
        exact this
      rwa [Rat.intCast_mul] at this
    exact (le_div lp).mpr this
  have t2 : ((U : Int) : Rat) / ((L : Int) : Rat) * T (-p) < (10 : Rat) ^ 8 := by
    rw [e]
    have : (((U : Int) * 10 ^ (-p).toNat : Int) : Rat) < (10 : Rat) ^ 8 * (((L : Int) * 10 ^ p.toNat : Int) : Rat) := by
      have : (((U : Int) * 10 ^ (-p).toNat : Int) : Rat) < (((10 : Int) ^ 8 * ((L : Int) * 10 ^ p.toNat) : Int) : Rat) := by
        refine Rat.intCast_lt_intCast.mpr ?_
        have := Int.ofNat_lt.mpr h2
        simp only [Int.natCast_mul, Int.natCast_pow] at this
        rw [Int.mul_comm ((10 : Int) ^ 8)]
        exact this
      rwa [Rat.intCast_mul (10 ^ 8)] at this
    rw [Rat.div_lt_iff lp]
    exact this
  have t7 : T 7 = (10 : Rat) ^ 7 := Rat.zpow_natCast 10 7
  have t8 : T 8 = (10 : Rat) ^ 8 := Rat.zpow_natCast 10 8
  have hp := T_pos p
  have hn := T_neg p
  have key : ∀ v : Rat, v * T (-p) * T p = v := fun v => by grind
  constructor
  · have := Rat.mul_le_mul_of_nonneg_right t1 (Rat.le_of_lt hp)
    rw [key, ← t7, ← T_add, Int.add_comm] at this
    exact this
  · have := Rat.mul_lt_mul_of_pos_right t2 hp
    rw [key, ← t8, ← T_add, Int.add_comm] at this
    exact this
/-- a fraction rounded to a whole number -/
def tkR (h : Hw) (x : Rat) : Int := if x = (x.floor : Rat) then x.floor else match h with
  | .nought => x.floor
  | .more => x.floor + 1
  | .even => if 2 * (x - x.floor) = 1 then x.floor + (if x.floor % 2 = 1 then 1 else 0) else x.floor + (if 1 < 2 * (x - x.floor) then 1 else 0)
  | .away => if 2 * (x - x.floor) = 1 then x.floor + 1 else x.floor + (if 1 < 2 * (x - x.floor) then 1 else 0)
theorem floor_div {U L : Int} (hL : 0 < L) : ((U : Rat) / (L : Rat)).floor = U / L := by
  have hL' : (0 : Rat) < (L : Rat) := Rat.intCast_pos.mpr hL
  have h1 : U / L ≤ ((U : Rat) / (L : Rat)).floor := by
    rw [Rat.le_floor_iff, le_div hL', ← Rat.intCast_mul, Rat.intCast_le_intCast]
    exact Int.ediv_mul_le U (by omega)
  have h2 : ((U : Rat) / (L : Rat)).floor < U / L + 1 := by
    rw [Rat.floor_lt_iff, Rat.div_lt_iff hL', ← Rat.intCast_mul, Rat.intCast_lt_intCast]
    exact Int.lt_ediv_add_one_mul_self U hL
  omega
theorem taken_R (h : Hw) {U L : Int} (hL : 0 < L) : takenZ h (U / L) (U % L) L = tkR h ((U : Rat) / (L : Rat)) := by
  have hL' : (0 : Rat) < (L : Rat) := Rat.intCast_pos.mpr hL
  have e : (U : Rat) = (L : Rat) * ((U / L : Int) : Rat) + ((U % L : Int) : Rat) := by
    rw [← Rat.intCast_mul, ← Rat.intCast_add, Rat.intCast_inj]
    exact (Int.mul_ediv_add_emod U L).symm
  have e2 : (U : Rat) / (L : Rat) - ((U / L : Int) : Rat) = ((U % L : Int) : Rat) / (L : Rat) := by grind
  have c0 : (U : Rat) / (L : Rat) = ((U / L : Int) : Rat) ↔ U % L = 0 := by
    rw [← Rat.intCast_eq_zero_iff]
    constructor
    · intro q; grind
    · intro q; grind
  have c1 : 2 * ((U : Rat) / (L : Rat) - ((U / L : Int) : Rat)) = 1 ↔ 2 * (U % L) = L := by
    rw [e2, ← Rat.intCast_inj, Rat.intCast_mul]
    have : ((2 : Int) : Rat) = 2 := rfl
    rw [this]
    constructor
    · intro q; grind
    · intro q; grind
  have c2 : 1 < 2 * ((U : Rat) / (L : Rat) - ((U / L : Int) : Rat)) ↔ L < 2 * (U % L) := by
    rw [e2, ← Rat.intCast_lt_intCast, Rat.intCast_mul, show ∀ a b : Rat, 2 * (a / b) = (2 * a) / b from fun a b => by grind, Rat.lt_div_iff hL']
    have : ((2 : Int) : Rat) = 2 := rfl
    rw [this]
    constructor
    · intro q; grind
    · intro q; grind
  unfold tkR takenZ
  rw [floor_div hL]
  simp only [c0, c1, c2]
  all_goals (cases h <;> rfl)
/-- the values are read off -/
theorem tk_bound (h : Hw) (x : Rat) : x.floor ≤ tkR h x ∧ tkR h x ≤ x.floor + 1 := by
  unfold tkR
  split
  · omega
  · cases h <;> (repeat' split) <;> omega
theorem tk_int (h : Hw) (n : Int) : tkR h (n : Rat) = n := by
  unfold tkR
  rw [Rat.floor_intCast, if_pos rfl]
theorem tk_mono (h : Hw) {x y : Rat} (hxy : x ≤ y) : tkR h x ≤ tkR h y := by
  have f := Rat.floor_monotone hxy
  obtain ⟨a1, a2⟩ := tk_bound h x
  obtain ⟨b1, b2⟩ := tk_bound h y
  by_cases q : x.floor < y.floor
  · omega
  · have e : x.floor = y.floor := by omega
    have fx := Rat.floor_le x
    unfold tkR
    rw [← e]
    by_cases c : x = (x.floor : Rat)
    · rw [if_pos c]
      split
      · omega
      · cases h <;> (repeat' split) <;> omega
    · rw [if_neg c, if_neg (show ¬ y = (x.floor : Rat) by grind)]
      cases h with
      | nought => simp
      | more => simp
      | even =>
        simp only
        generalize hF : x.floor = F at *
        by_cases p1 : 2 * (x - (F : Rat)) = 1
        · rw [if_pos p1]
          by_cases p2 : 2 * (y - (F : Rat)) = 1
          · rw [if_pos p2]; exact Int.le_refl _
          · rw [if_neg p2, if_pos (show 1 < 2 * (y - (F : Rat)) from Rat.lt_of_le_of_ne (by grind) (fun z => p2 z.symm))]; split <;> omega
        · rw [if_neg p1]
          by_cases p3 : 1 < 2 * (x - (F : Rat))
          · rw [if_pos p3, if_neg (show ¬ 2 * (y - (F : Rat)) = 1 by grind), if_pos (show 1 < 2 * (y - (F : Rat)) by grind)]; exact Int.le_refl _
          · rw [if_neg p3]
            (repeat' split) <;> omega
      | away =>
        simp only
        generalize hF : x.floor = F at *
        by_cases p1 : 2 * (x - (F : Rat)) = 1
        · rw [if_pos p1]
          by_cases p2 : 2 * (y - (F : Rat)) = 1
          · rw [if_pos p2]; exact Int.le_refl _
          · rw [if_neg p2, if_pos (show 1 < 2 * (y - (F : Rat)) from Rat.lt_of_le_of_ne (by grind) (fun z => p2 z.symm))]; exact Int.le_refl _
        · rw [if_neg p1]
          by_cases p3 : 1 < 2 * (x - (F : Rat))
          · rw [if_pos p3, if_neg (show ¬ 2 * (y - (F : Rat)) = 1 by grind), if_pos (show 1 < 2 * (y - (F : Rat)) by grind)]; exact Int.le_refl _
          · rw [if_neg p3]
            (repeat' split) <;> omega
/-! stripped -/
theorem vl_strip : ∀ (n : Nat) (a b : Int), vl (strip n a b) = vl (a, b)
  | 0, _, _ => rfl
  | n + 1, a, b => by
    unfold strip
    by_cases h : a % 10 = 0
    · rw [if_pos h, vl_strip n]
      unfold vl
      have e : (a : Rat) = ((a / 10 : Int) : Rat) * 10 := by
        have : ((a : Int) : Rat) = (((a / 10) * 10 : Int) : Rat) := Rat.intCast_inj.mpr (by omega)
        rwa [Rat.intCast_mul] at this
      show ((a / 10 : Int) : Rat) * T (b + 1) = (a : Rat) * T b
      rw [T_add, T_one, e]
      grind
    · rw [if_neg h]
theorem strip_end : ∀ (n : Nat) (a b : Int), a ≠ 0 → a.natAbs < 10 ^ n → (strip n a b).1 % 10 ≠ 0
  | 0, a, b, h0, h => by
    have : (10 : Nat) ^ 0 = 1 := rfl
    omega
  | n + 1, a, b, h0, h => by
    unfold strip
    by_cases q : a % 10 = 0
    · rw [if_pos q]
      refine strip_end n _ _ (by omega) ?_
      have : (10 : Nat) ^ (n + 1) = 10 ^ n * 10 := Nat.pow_succ _ _
      omega
    · rw [if_neg q]; exact q
theorem figs_10 {a : Int} (h : 0 < a) (q : a % 10 = 0) : figs a.natAbs = figs (a / 10).natAbs + 1 := by
  have e : (a / 10).natAbs = a.natAbs / 10 := by omega
  rw [e]
  exact figs_step (by omega)
theorem hg_strip : ∀ (n : Nat) (a b : Int), 0 < a → hgZ (strip n a b) = hgZ (a, b)
  | 0, _, _, _ => rfl
  | n + 1, a, b, h => by
    unfold strip
    by_cases q : a % 10 = 0
    · rw [if_pos q, hg_strip n _ _ (by omega)]
      unfold hgZ
      have := figs_10 h q
      simp only
      omega
    · rw [if_neg q]
/-- a height tells a size -/
theorem hg_T {a b : Int} (h : 0 < a) : T (hgZ (a, b)) ≤ vl (a, b) ∧ vl (a, b) < T (hgZ (a, b) + 1) := by
  have h1 := figs_lt a.natAbs
  have h2 := figs_ge a.natAbs (by omega)
  have h3 := figs_pos a.natAbs
  unfold hgZ vl
  simp only
  have e1 : b + (figs a.natAbs : Int) - 1 = ((figs a.natAbs - 1 : Nat) : Int) + b := by omega
  have e2 : b + (figs a.natAbs : Int) - 1 + 1 = ((figs a.natAbs : Nat) : Int) + b := by omega
  rw [e2, e1, T_add, T_add, T_nat, T_nat]
  have a1 : ((10 : Int) ^ (figs a.natAbs - 1)) ≤ a := by
    have := Int.ofNat_le.mpr h2
    rw [Int.natCast_pow] at this
    have e : ((a.natAbs : Nat) : Int) = a := by omega
    rw [e] at this
    exact this
  have a2 : a < ((10 : Int) ^ (figs a.natAbs)) := by
    have := Int.ofNat_lt.mpr h1
    rw [Int.natCast_pow] at this
    have e : ((a.natAbs : Nat) : Int) = a := by omega
    rw [e] at this
    exact this
  exact ⟨Rat.mul_le_mul_of_nonneg_right (Rat.intCast_le_intCast.mpr a1) (Rat.le_of_lt (T_pos b)), Rat.mul_lt_mul_of_pos_right (Rat.intCast_lt_intCast.mpr a2) (T_pos b)⟩
theorem hg_hi {a b : Int} (h : 0 < a) (k : Int) : k < hgZ (a, b) ↔ T (k + 1) ≤ vl (a, b) := by
  obtain ⟨h1, h2⟩ := hg_T (b := b) h
  constructor
  · intro q
    have := T_mono (show k + 1 ≤ hgZ (a, b) by omega)
    grind
  · intro q
    have := T_lt_iff.mp (show T (k + 1) < T (hgZ (a, b) + 1) by grind)
    omega
theorem hg_lo {a b : Int} (h : 0 < a) (k : Int) : hgZ (a, b) < k ↔ vl (a, b) < T k := by
  have := hg_hi (b := b) h (k - 1)
  rw [show k - 1 + 1 = k by omega] at this
  grind
def NumOk (a b : Int) : Prop := (a = 0 ∧ b = 0) ∨ (a ≠ 0 ∧ a % 10 ≠ 0 ∧ a.natAbs < 10 ^ 8 ∧ -40 ≤ b + (figs a.natAbs : Int) - 1 ∧ b + (figs a.natAbs : Int) - 1 ≤ 40)
theorem vl_neg (s : Int × Int) : vl (-s.1, s.2) = -vl s := by
  unfold vl
  simp only
  rw [Rat.intCast_neg]
  grind
theorem vl_zero (b : Int) : vl (0, b) = 0 := by
  show ((0 : Int) : Rat) * T b = 0
  rw [Rat.intCast_zero, Rat.zero_mul]
/-- digits that end in no 0 are told by the value -/
theorem vl_inj {s t : Int × Int} (hs : s.1 % 10 ≠ 0) (ht : t.1 % 10 ≠ 0) (h : vl s = vl t) : s = t := by
  have key : ∀ (a b a' b' : Int), a % 10 ≠ 0 → a' % 10 ≠ 0 → b ≤ b' → vl (a, b) = vl (a', b') → a = a' ∧ b = b' := by
    intro a b a' b' h1 h2 hb e
    obtain ⟨n, hn⟩ := Int.eq_ofNat_of_zero_le (show 0 ≤ b' - b by omega)
    have e2 : b' = (n : Int) + b := by omega
    subst e2
    unfold vl at e
    simp only at e
    rw [T_add, T_nat] at e
    have hb := T_pos b
    have e3 : (a : Rat) = (a' : Rat) * ((10 ^ n : Int) : Rat) := mul_cancel hb (by rw [e, Rat.mul_assoc])
    rw [← Rat.intCast_mul, Rat.intCast_inj] at e3
    cases n with
    | zero => exact ⟨by simpa using e3, by simp⟩
    | succ n =>
      exfalso
      rw [Int.pow_succ, ← Int.mul_assoc] at e3
      omega
  obtain ⟨a, b⟩ := s
  obtain ⟨a', b'⟩ := t
  by_cases q : b ≤ b'
  · obtain ⟨h1, h2⟩ := key a b a' b' hs ht q h
    rw [h1, h2]
  · obtain ⟨h1, h2⟩ := key a' b' a b ht hs (by omega) h.symm
    rw [h1, h2]
/-! the rounded value -/
def pR (v : Rat) : Int := pwN v.num.natAbs v.den
theorem num_pos' {v : Rat} (h : 0 < v) : 0 < v.num := by
  have := (Rat.lt_iff 0 v).mp h
  simpa using this
theorem pR_of {v : Rat} (h : 0 < v) : PwOf v (pR v) := by
  have h1 := num_pos' h
  have := pw_R (U := v.num.natAbs) (L := v.den) (by omega) (by have := v.den_nz; omega)
  have e : (((v.num.natAbs : Nat) : Int) : Rat) / (((v.den : Nat) : Int) : Rat) = v := by
    rw [show ((v.num.natAbs : Nat) : Int) = v.num by omega, Rat.intCast_natCast]
    rw [← Rat.mkRat_eq_div]
    exact Rat.mkRat_self v
  rw [e] at this
  exact this
def rwR (h : Hw) (v : Rat) : Rat := (tkR h (v * T (-(pR v))) : Rat) * T (pR v)
def rd1 (h : Hw) (v : Rat) : Option Rat := if T 41 ≤ rwR h v then none else if rwR h v < T (-40) then some (if h = .more then T (-40) else 0) else some (rwR h v)
def rdR (m : Mn) (v : Rat) : Option Rat := if v = 0 then some 0 else if v < 0 then (rd1 (m.by true) (-v)).map (fun r => -r) else rd1 (m.by false) v
def ExIs : Option (Int × Int) → Option Rat → Prop
  | none, none => True
  | some s, some r => NumOk s.1 s.2 ∧ vl s = r
  | _, _ => False
theorem T_7 : T 7 = ((10000000 : Int) : Rat) := by
  rw [show (7 : Int) = ((7 : Nat) : Int) from rfl, T_nat]; rfl
theorem T_8 : T 8 = ((100000000 : Int) : Rat) := by
  rw [show (8 : Int) = ((8 : Nat) : Int) from rfl, T_nat]; rfl
/-- scaled, it has eight figures -/
theorem sc_bound {v : Rat} {p : Int} (h : PwOf v p) : T 7 ≤ v * T (-p) ∧ v * T (-p) < T 8 := by
  obtain ⟨h1, h2⟩ := h
  have hp := T_pos (-p)
  have a1 := Rat.mul_le_mul_of_nonneg_right h1 (Rat.le_of_lt hp)
  have a2 := Rat.mul_lt_mul_of_pos_right h2 hp
  rw [← T_add] at a1 a2
  rw [show p + 7 + -p = 7 by omega] at a1
  rw [show p + 8 + -p = 8 by omega] at a2
  exact ⟨a1, a2⟩
theorem tk_range (h : Hw) {v : Rat} {p : Int} (hp : PwOf v p) : 10000000 ≤ tkR h (v * T (-p)) ∧ tkR h (v * T (-p)) ≤ 100000000 := by
  obtain ⟨h1, h2⟩ := sc_bound hp
  rw [T_7] at h1
  rw [T_8] at h2
  have f1 := Rat.le_floor_iff.mpr h1
  have f2 := Rat.floor_lt_iff.mpr h2
  have := tk_bound h (v * T (-p))
  omega
theorem fit_R (h : Hw) {w p : Int} (bl : Bool) (hw : 0 < w) : fitZ h w p bl = if T 41 ≤ vl (w, p) then none else if vl (w, p) < T (-40) then (if h = .more then some (sgZ bl, -40) else some (0, 0)) else some (sgZ bl * (strip 5000 w p).1, (strip 5000 w p).2) := by
  unfold fitZ
  rw [hg_strip 5000 w p hw]
  have a := hg_hi (b := p) hw 40
  have b := hg_lo (b := p) hw (-40)
  rw [show (40 : Int) + 1 = 41 from rfl] at a
  simp only [a, b]
theorem NumOk.neg {a b : Int} (h : NumOk a b) : NumOk (-a) b := by
  unfold NumOk at *
  rw [Int.natAbs_neg]
  omega
theorem NumOk.sg {a b : Int} (h : NumOk a b) (bl : Bool) : NumOk (sgZ bl * a) b := by
  cases bl with
  | false => rw [show sgZ false = 1 from rfl, Int.one_mul]; exact h
  | true => rw [show sgZ true = -1 from rfl, Int.neg_one_mul]; exact h.neg
theorem one_ok : NumOk 1 (-40) := .inr ⟨by decide, by decide, by decide, by decide +kernel, by decide +kernel⟩
theorem zero_ok : NumOk 0 0 := .inl ⟨rfl, rfl⟩
theorem strip_ok {w p : Int} (h1 : 0 < w) (h2 : w ≤ 100000000) (h3 : ¬ T 41 ≤ vl (w, p)) (h4 : ¬ vl (w, p) < T (-40)) : NumOk (strip 5000 w p).1 (strip 5000 w p).2 := by
  obtain ⟨a1, a2, _, _⟩ := strip_pos 5000 w p h1
  have b8 : w.natAbs < 10 ^ 9 := by omega
  have e := strip_end 5000 w p (by omega) (Nat.lt_of_lt_of_le b8 (pow10_le (by decide)))
  have hg := hg_strip 5000 w p h1
  have a := hg_hi (b := p) h1 40
  have b := hg_lo (b := p) h1 (-40)
  rw [show (40 : Int) + 1 = 41 from rfl] at a
  rw [← a] at h3
  rw [← b] at h4
  rw [← hg] at h3 h4
  unfold hgZ at h3 h4
  refine .inr ⟨by omega, e, by omega, by omega, by omega⟩
theorem ex_fit (h : Hw) {v : Rat} {p : Int} (bl : Bool) (hv : 0 < v) (hp : PwOf v p) : ExIs (fitZ h (tkR h (v * T (-p))) p bl) ((rd1 h v).map fun r => (sgZ bl : Rat) * r) := by
  have e := pw_uniq hp (pR_of hv)
  subst e
  obtain ⟨w1, w2⟩ := tk_range h hp
  rw [fit_R h bl (by omega)]
  have er : vl (tkR h (v * T (-(pR v))), pR v) = rwR h v := rfl
  rw [er]
  unfold rd1
  by_cases c1 : T 41 ≤ rwR h v
  · rw [if_pos c1, if_pos c1]; trivial
  · rw [if_neg c1, if_neg c1]
    by_cases c2 : rwR h v < T (-40)
    · rw [if_pos c2, if_pos c2]
      by_cases c3 : h = .more
      · rw [if_pos c3, if_pos c3]
        refine ⟨?_, rfl⟩
        have := one_ok.sg bl
        rwa [Int.mul_one] at this
      · rw [if_neg c3, if_neg c3]
        refine ⟨zero_ok, ?_⟩
        rw [vl_zero]
        exact (Rat.mul_zero _).symm
    · rw [if_neg c2, if_neg c2]
      refine ⟨(strip_ok (by omega) w2 (by rw [er]; exact c1) (by rw [er]; exact c2)).sg bl, ?_⟩
      show ((sgZ bl * (strip 5000 _ _).1 : Int) : Rat) * T (strip 5000 _ _).2 = _
      rw [Rat.intCast_mul, Rat.mul_assoc]
      have := vl_strip 5000 (tkR h (v * T (-(pR v)))) (pR v)
      rw [er] at this
      rw [← this]
      rfl
theorem ex_R (m : Mn) {u l : Int} (hl : l ≠ 0) : ExIs (exZ m u l) (rdR m ((u : Rat) / (l : Rat))) := by
  unfold exZ rdR
  by_cases h0 : u = 0
  · subst h0
    have : ((0 : Int) : Rat) / (l : Rat) = 0 := by rw [Rat.intCast_zero]; grind
    rw [if_pos rfl, this, if_pos rfl]
    exact ⟨zero_ok, vl_zero 0⟩
  · rw [if_neg h0]
    have hU : 0 < u.natAbs := by omega
    have hL : 0 < l.natAbs := by omega
    have hp := pw_R hU hL
    have fr := frac_T (U := u.natAbs) hL (pwN u.natAbs l.natAbs)
    have ul : (0 : Rat) < ((u.natAbs : Int) : Rat) := Rat.intCast_pos.mpr (by omega)
    have ll : (0 : Rat) < ((l.natAbs : Int) : Rat) := Rat.intCast_pos.mpr (by omega)
    have hv : (0 : Rat) < ((u.natAbs : Int) : Rat) / ((l.natAbs : Int) : Rat) := by
      rw [Rat.lt_div_iff ll, Rat.zero_mul]; exact ul
    have l0 : 0 < (l.natAbs : Int) * 10 ^ (pwN u.natAbs l.natAbs).toNat := Int.mul_pos (by omega) (by have := pow_ge1 (pwN u.natAbs l.natAbs).toNat; omega)
    have sv : (u : Rat) / (l : Rat) = (sgZ (decide (u < 0) != decide (l < 0)) : Rat) * (((u.natAbs : Int) : Rat) / ((l.natAbs : Int) : Rat)) := by
      by_cases c1 : u < 0 <;> by_cases c2 : l < 0
      · rw [decide_eq_true c1, decide_eq_true c2, show (u.natAbs : Int) = -u by omega, show (l.natAbs : Int) = -l by omega, Rat.intCast_neg, Rat.intCast_neg]
        show _ = ((1 : Int) : Rat) * _
        have : ((1 : Int) : Rat) = 1 := rfl
        grind
      · rw [decide_eq_true c1, decide_eq_false c2, show (u.natAbs : Int) = -u by omega, show (l.natAbs : Int) = l by omega, Rat.intCast_neg]
        show _ = ((-1 : Int) : Rat) * _
        have : ((-1 : Int) : Rat) = -1 := rfl
        grind
      · rw [decide_eq_false c1, decide_eq_true c2, show (u.natAbs : Int) = u by omega, show (l.natAbs : Int) = -l by omega, Rat.intCast_neg]
        show _ = ((-1 : Int) : Rat) * _
        have : ((-1 : Int) : Rat) = -1 := rfl
        grind
      · rw [decide_eq_false c1, decide_eq_false c2, show (u.natAbs : Int) = u by omega, show (l.natAbs : Int) = l by omega]
        show _ = ((1 : Int) : Rat) * _
        have : ((1 : Int) : Rat) = 1 := rfl
        grind
    rw [sv]
    simp only [taken_R _ l0, ← fr]
    generalize ((u.natAbs : Int) : Rat) / ((l.natAbs : Int) : Rat) = v at *
    generalize (decide (u < 0) != decide (l < 0)) = bl at *
    have q := ex_fit (m.by bl) bl hv hp
    cases bl with
    | false =>
      have e1 : (sgZ false : Rat) * v = v := by rw [show sgZ false = 1 from rfl]; exact Rat.one_mul v
      rw [e1, if_neg (by grind), if_neg (by grind)]
      have e2 : (rd1 (m.by false) v).map (fun r => (sgZ false : Rat) * r) = rd1 (m.by false) v := by
        cases rd1 (m.by false) v with
        | none => rfl
        | some r => exact congrArg some (Rat.one_mul r)
      rw [e2] at q
      exact q
    | true =>
      have e0 : (sgZ true : Rat) = -1 := rfl
      have e1 : (sgZ true : Rat) * v = -v := by rw [e0]; grind
      rw [e1, if_neg (by grind), if_pos (by grind), Rat.neg_neg]
      have e2 : (rd1 (m.by true) v).map (fun r => (sgZ true : Rat) * r) = (rd1 (m.by true) v).map (fun r => -r) := by
        congr 1
        funext r
        rw [e0]; grind
      rw [e2] at q
      exact q
/-! ### laws of rounding -/
def Mn.turn : Mn → Mn
  | .up => .down | .down => .up | .even => .even | .away => .away | .nought => .nought
theorem Mn.turn_by (m : Mn) (b : Bool) : m.turn.by (!b) = m.by b := by cases m <;> cases b <;> rfl
theorem rd_neg (m : Mn) (v : Rat) : rdR m.turn (-v) = (rdR m v).map fun r => -r := by
  unfold rdR
  by_cases h0 : v = 0
  · subst h0
    rw [Rat.neg_zero, if_pos rfl, if_pos rfl]
    exact congrArg some Rat.neg_zero.symm
  · rw [if_neg h0, if_neg (by grind)]
    by_cases h1 : v < 0
    · rw [if_pos h1, if_neg (by grind), show m.turn.by false = m.by true from m.turn_by true]
      cases rd1 (m.by true) (-v) with
      | none => rfl
      | some r => exact congrArg some (Rat.neg_neg r).symm
    · rw [if_neg h1, if_pos (by grind), show m.turn.by true = m.by false from m.turn_by false, Rat.neg_neg]
theorem rw_range (h : Hw) {v : Rat} (hv : 0 < v) : T (pR v + 7) ≤ rwR h v ∧ rwR h v ≤ T (pR v + 8) := by
  obtain ⟨h1, h2⟩ := tk_range h (pR_of hv)
  have hp := Rat.le_of_lt (T_pos (pR v))
  unfold rwR
  rw [T_add, T_add, Rat.mul_comm (T (pR v)), Rat.mul_comm (T (pR v)), T_7, T_8]
  exact ⟨Rat.mul_le_mul_of_nonneg_right (Rat.intCast_le_intCast.mpr h1) hp, Rat.mul_le_mul_of_nonneg_right (Rat.intCast_le_intCast.mpr h2) hp⟩
theorem rw_pos (h : Hw) {v : Rat} (hv : 0 < v) : 0 < rwR h v := by
  have := (rw_range h hv).1
  have := T_pos (pR v + 7)
  grind
theorem rw_mono (h : Hw) {v v' : Rat} (hv : 0 < v) (hl : v ≤ v') : rwR h v ≤ rwR h v' := by
  have hv' : 0 < v' := by grind
  obtain ⟨a1, a2⟩ := pR_of hv
  obtain ⟨b1, b2⟩ := pR_of hv'
  have le : pR v + 7 < pR v' + 8 := T_lt_iff.mp (by grind)
  by_cases q : pR v = pR v'
  · unfold rwR
    rw [q]
    refine Rat.mul_le_mul_of_nonneg_right (Rat.intCast_le_intCast.mpr (tk_mono h ?_)) (Rat.le_of_lt (T_pos _))
    exact Rat.mul_le_mul_of_nonneg_right hl (Rat.le_of_lt (T_pos _))
  · have h1 := (rw_range h hv).2
    have h2 := (rw_range h hv').1
    have h3 := T_mono (show pR v + 8 ≤ pR v' + 7 by omega)
    grind
theorem rd1_pos (h : Hw) {v r : Rat} (hv : 0 < v) (e : rd1 h v = some r) : 0 ≤ r ∧ r < T 41 := by
  unfold rd1 at e
  have h1 := rw_pos h hv
  have h2 := T_pos (-40)
  have h3 := T_lt (show (-40 : Int) < 41 by decide)
  split at e
  · cases e
  · split at e
    · cases e
      split <;> grind
    · cases e
      grind
theorem rd1_mono (h : Hw) {v v' r' : Rat} (hv : 0 < v) (hl : v ≤ v') (e : rd1 h v' = some r') : ∃ r, rd1 h v = some r ∧ r ≤ r' := by
  have hm := rw_mono h hv hl
  have h1 := rw_pos h hv
  unfold rd1 at e ⊢
  split at e
  · cases e
  · rename_i c1
    rw [if_neg (show ¬ T 41 ≤ rwR h v by grind)]
    split at e
    · rename_i c2
      cases e
      rw [if_pos (show rwR h v < T (-40) by grind)]
      exact ⟨_, rfl, Rat.le_refl⟩
    · rename_i c2
      cases e
      split
      · refine ⟨_, rfl, ?_⟩
        have := T_pos (-40)
        split <;> grind
      · exact ⟨_, rfl, hm⟩
/-- of a greater one comes none that is less -/
theorem rd_mono (m : Mn) {v v' r r' : Rat} (hl : v ≤ v') (e : rdR m v = some r) (e' : rdR m v' = some r') : r ≤ r' := by
  unfold rdR at e e'
  by_cases a0 : v = 0
  · rw [if_pos a0] at e
    cases e
    by_cases b0 : v' = 0
    · rw [if_pos b0] at e'; cases e'; exact Rat.le_refl
    · rw [if_neg b0, if_neg (by grind)] at e'
      exact (rd1_pos _ (by grind) e').1
  · rw [if_neg a0] at e
    by_cases a1 : v < 0
    · rw [if_pos a1] at e
      obtain ⟨s, hs, rfl⟩ := Option.map_eq_some_iff.mp e
      have ps := (rd1_pos _ (by grind) hs).1
      by_cases b0 : v' = 0
      · rw [if_pos b0] at e'; cases e'; grind
      · rw [if_neg b0] at e'
        by_cases b1 : v' < 0
        · rw [if_pos b1] at e'
          obtain ⟨s', hs', rfl⟩ := Option.map_eq_some_iff.mp e'
          obtain ⟨z, hz, hle⟩ := rd1_mono _ (show 0 < -v' by grind) (show -v' ≤ -v by grind) hs
          rw [hs'] at hz
          cases hz
          grind
        · rw [if_neg b1] at e'
          have := (rd1_pos _ (by grind) e').1
          grind
    · rw [if_neg a1] at e
      rw [if_neg (by grind), if_neg (by grind)] at e'
      obtain ⟨z, hz, hle⟩ := rd1_mono _ (show 0 < v by grind) hl e'
      rw [e] at hz
      cases hz
      exact hle
/-- between two that are told, one is told -/
theorem rd_between (m : Mn) {a v b ra rb : Rat} (h1 : a ≤ v) (h2 : v ≤ b) (ea : rdR m a = some ra) (eb : rdR m b = some rb) : ∃ r, rdR m v = some r := by
  unfold rdR at *
  by_cases c0 : v = 0
  · exact ⟨0, if_pos c0⟩
  · rw [if_neg c0]
    by_cases c1 : v < 0
    · rw [if_pos c1]
      rw [if_neg (by grind), if_pos (by grind)] at ea
      obtain ⟨s, hs, _⟩ := Option.map_eq_some_iff.mp ea
      obtain ⟨z, hz, _⟩ := rd1_mono _ (show 0 < -v by grind) (show -v ≤ -a by grind) hs
      exact ⟨-z, by rw [hz]; rfl⟩
    · rw [if_neg c1]
      rw [if_neg (by grind), if_neg (by grind)] at eb
      obtain ⟨z, hz, _⟩ := rd1_mono _ (show 0 < v by grind) h2 eb
      exact ⟨z, hz⟩
/-! numbers are kept -/
theorem fix1 (h : Hw) {a b : Int} (ha : 0 < a) (ok : NumOk a b) : rd1 h (vl (a, b)) = some (vl (a, b)) := by
  rcases ok with ⟨z, _⟩ | ⟨_, _, h3, h4, h5⟩
  · omega
  have hv : 0 < vl (a, b) := Rat.mul_pos (Rat.intCast_pos.mpr ha) (T_pos b)
  obtain ⟨t1, t2⟩ := hg_T (b := b) ha
  have hp := pR_of hv
  have hh : hgZ (a, b) = b + (figs a.natAbs : Int) - 1 := rfl
  rw [← hh] at h4 h5
  have ep : pR (vl (a, b)) = hgZ (a, b) - 7 := pw_uniq hp ⟨by rw [show hgZ (a, b) - 7 + 7 = hgZ (a, b) by omega]; exact t1, by rw [show hgZ (a, b) - 7 + 8 = hgZ (a, b) + 1 by omega]; exact t2⟩
  have fl := figs_le (k := 8) (by decide) h3
  obtain ⟨n, hn⟩ := Int.eq_ofNat_of_zero_le (show 0 ≤ b - pR (vl (a, b)) by rw [ep, hh]; omega)
  have e1 : vl (a, b) * T (-(pR (vl (a, b)))) = ((a * 10 ^ n : Int) : Rat) := by
    rw [Rat.intCast_mul, ← T_nat, ← hn]
    show (a : Rat) * T b * T (-(pR (vl (a, b)))) = _
    rw [Rat.mul_assoc, ← T_add]
    rfl
  have er : rwR h (vl (a, b)) = vl (a, b) := by
    unfold rwR
    rw [e1, tk_int, ← e1, Rat.mul_assoc, ← T_add, show -(pR (vl (a, b))) + pR (vl (a, b)) = 0 by omega, T_zero, Rat.mul_one]
  unfold rd1
  rw [er, if_neg, if_neg]
  · have := T_mono h4
    grind
  · have := T_mono (show hgZ (a, b) + 1 ≤ 41 by omega)
    grind
theorem rd_fix (m : Mn) {a b : Int} (ok : NumOk a b) : rdR m (vl (a, b)) = some (vl (a, b)) := by
  by_cases h0 : a = 0
  · subst h0
    rw [vl_zero]
    exact if_pos rfl
  · unfold rdR
    have e : vl (-a, b) = -vl (a, b) := vl_neg (a, b)
    by_cases h1 : 0 < a
    · have hv : 0 < vl (a, b) := Rat.mul_pos (Rat.intCast_pos.mpr h1) (T_pos b)
      rw [if_neg (by grind), if_neg (by grind), fix1 _ h1 ok]
    · have hv : 0 < vl (-a, b) := Rat.mul_pos (Rat.intCast_pos.mpr (by omega)) (T_pos b)
      rw [if_neg (by grind), if_pos (by grind), ← e, fix1 _ (by omega) ok.neg, e]
      exact congrArg some (Rat.neg_neg _)
theorem num_inj {s t : Int × Int} (hs : NumOk s.1 s.2) (ht : NumOk t.1 t.2) (h : vl s = vl t) : s = t := by
  obtain ⟨a, b⟩ := s
  obtain ⟨c, d⟩ := t
  have key : ∀ a b : Int, a ≠ 0 → vl (a, b) ≠ 0 := fun a b ha z => by
    rcases Rat.mul_eq_zero.mp z with z | z
    · exact ha (Rat.intCast_eq_zero_iff.mp z)
    · have := T_pos b
      grind
  rcases hs with ⟨h1, h2⟩ | ⟨h1, h2, _⟩
  · rcases ht with ⟨g1, g2⟩ | ⟨g1, g2, _⟩
    · simp only at h1 h2 g1 g2
      rw [h1, h2, g1, g2]
    · simp only at h1
      subst h1
      rw [vl_zero] at h
      exact absurd h.symm (key _ _ g1)
  · rcases ht with ⟨g1, g2⟩ | ⟨g1, g2, _⟩
    · simp only at g1
      subst g1
      rw [vl_zero] at h
      exact absurd h (key _ _ h1)
    · exact vl_inj h2 g2 h
theorem ExIs.uniq {x y : Option (Int × Int)} {r : Option Rat} (hx : ExIs x r) (hy : ExIs y r) : x = y := by
  cases x with
  | none =>
    cases y with
    | none => rfl
    | some t => cases r <;> simp [ExIs] at hx hy
  | some s =>
    cases r with
    | none => exact hx.elim
    | some r =>
      cases y with
      | none => exact hy.elim
      | some t => exact congrArg some (num_inj hx.1 hy.1 (hx.2.trans hy.2.symm))
/-- the value alone tells -/
theorem ex_same (m : Mn) {u l u' l' : Int} (hl : l ≠ 0) (hl' : l' ≠ 0) (h : (u : Rat) / (l : Rat) = (u' : Rat) / (l' : Rat)) : exZ m u l = exZ m u' l' := by
  have a := ex_R m (u := u) hl
  have b := ex_R m (u := u') hl'
  rw [h] at a
  exact a.uniq b
def neg1 (s : Int × Int) : Int × Int := (-s.1, s.2)
theorem ex_neg (m : Mn) {u l : Int} (hl : l ≠ 0) : exZ m.turn (-u) l = (exZ m u l).map neg1 := by
  have a := ex_R m.turn (u := -u) hl
  have b := ex_R m (u := u) hl
  have e : ((-u : Int) : Rat) / (l : Rat) = -((u : Rat) / (l : Rat)) := by rw [Rat.intCast_neg]; grind
  rw [e, rd_neg] at a
  refine a.uniq ?_
  cases x : exZ m u l with
  | none =>
    rw [x] at b
    cases y : rdR m ((u : Rat) / (l : Rat)) with
    | none => trivial
    | some r => rw [y] at b; exact b.elim
  | some s =>
    rw [x] at b
    cases y : rdR m ((u : Rat) / (l : Rat)) with
    | none => rw [y] at b; exact b.elim
    | some r =>
      rw [y] at b
      refine ⟨b.1.neg, ?_⟩
      rw [← b.2]
      exact vl_neg s
theorem ex_fix (m : Mn) {u l a b : Int} (hl : l ≠ 0) (ok : NumOk a b) (h : (u : Rat) / (l : Rat) = vl (a, b)) : exZ m u l = some (a, b) := by
  have x := ex_R m (u := u) hl
  rw [h, rd_fix m ok] at x
  exact x.uniq ⟨ok, rfl⟩
theorem ex_some (m : Mn) {u l : Int} {s : Int × Int} (hl : l ≠ 0) (h : exZ m u l = some s) : NumOk s.1 s.2 ∧ rdR m ((u : Rat) / (l : Rat)) = some (vl s) := by
  have x := ex_R m (u := u) hl
  rw [h] at x
  cases y : rdR m ((u : Rat) / (l : Rat)) with
  | none => rw [y] at x; exact x.elim
  | some r => rw [y] at x; exact ⟨x.1, by rw [x.2]⟩
/-! down and up -/
theorem sc_back (v : Rat) (p : Int) : v * T (-p) * T p = v := by rw [Rat.mul_assoc, ← T_add, show -p + p = 0 by omega, T_zero, Rat.mul_one]
theorem rw_nought {v : Rat} (hv : 0 < v) : rwR .nought v ≤ v := by
  have : (tkR .nought (v * T (-(pR v))) : Rat) ≤ v * T (-(pR v)) := by
    unfold tkR
    split
    · exact Rat.floor_le _
    · exact Rat.floor_le _
  have := Rat.mul_le_mul_of_nonneg_right this (Rat.le_of_lt (T_pos (pR v)))
  rw [sc_back] at this
  exact this
theorem rw_more {v : Rat} (hv : 0 < v) : v ≤ rwR .more v := by
  have : v * T (-(pR v)) ≤ (tkR .more (v * T (-(pR v))) : Rat) := by
    unfold tkR
    split
    · rename_i e
      rw [← e]
      exact Rat.le_refl
    · exact Rat.le_of_lt (Rat.lt_floor_add_one _)
  have := Rat.mul_le_mul_of_nonneg_right this (Rat.le_of_lt (T_pos (pR v)))
  rw [sc_back] at this
  exact this
theorem rd1_nought {v r : Rat} (hv : 0 < v) (e : rd1 .nought v = some r) : r ≤ v := by
  have h := rw_nought hv
  unfold rd1 at e
  split at e
  · cases e
  · split at e
    · cases e
      rw [if_neg (by decide)]
      exact Rat.le_of_lt hv
    · cases e
      exact h
theorem rd1_more {v r : Rat} (hv : 0 < v) (e : rd1 .more v = some r) : v ≤ r := by
  have h := rw_more hv
  unfold rd1 at e
  split at e
  · cases e
  · split at e
    · cases e
      rw [if_pos rfl]
      grind
    · cases e
      exact h
theorem rd_down {v r : Rat} (e : rdR .down v = some r) : r ≤ v := by
  unfold rdR at e
  split at e
  · rename_i h; cases e; rw [h]; exact Rat.le_refl
  · split at e
    · obtain ⟨s, hs, rfl⟩ := Option.map_eq_some_iff.mp e
      have := rd1_more (by grind) hs
      grind
    · exact rd1_nought (by grind) e
theorem rd_up {v r : Rat} (e : rdR .up v = some r) : v ≤ r := by
  unfold rdR at e
  split at e
  · rename_i h; cases e; rw [h]; exact Rat.le_refl
  · split at e
    · obtain ⟨s, hs, rfl⟩ := Option.map_eq_some_iff.mp e
      have := rd1_nought (by grind) hs
      grind
    · exact rd1_more (by grind) e
/-! as functions of the value -/
def exV (m : Mn) (v : Rat) : Option (Int × Int) := exZ m v.num (v.den : Int)
theorem num_den (v : Rat) : ((v.num : Int) : Rat) / (((v.den : Nat) : Int) : Rat) = v := by
  rw [Rat.intCast_natCast, ← Rat.mkRat_eq_div]
  exact Rat.mkRat_self v
theorem den_ne (v : Rat) : ((v.den : Nat) : Int) ≠ 0 := by have := v.den_nz; omega
theorem ex_V (m : Mn) {u l : Int} (hl : l ≠ 0) : exZ m u l = exV m ((u : Rat) / (l : Rat)) := ex_same m hl (den_ne _) (num_den _).symm
theorem exV_is (m : Mn) (v : Rat) : ExIs (exV m v) (rdR m v) := by
  have := ex_R m (u := v.num) (den_ne v)
  rw [num_den] at this
  exact this
theorem exV_fix (m : Mn) {a b : Int} (ok : NumOk a b) : exV m (vl (a, b)) = some (a, b) := ex_fix m (den_ne _) ok (num_den _)
theorem exV_some {m : Mn} {v : Rat} {s : Int × Int} (h : exV m v = some s) : NumOk s.1 s.2 ∧ rdR m v = some (vl s) := by
  have := ex_some m (den_ne v) h
  rw [num_den] at this
  exact this
theorem exV_none {m : Mn} {v : Rat} (h : exV m v = none) : rdR m v = none := by
  have := exV_is m v
  rw [h] at this
  cases e : rdR m v with
  | none => rfl
  | some r => rw [e] at this; exact this.elim
theorem exV_mono {m : Mn} {v v' : Rat} {s s' : Int × Int} (hl : v ≤ v') (h : exV m v = some s) (h' : exV m v' = some s') : vl s ≤ vl s' := rd_mono m hl (exV_some h).2 (exV_some h').2
theorem exV_down {v : Rat} {s : Int × Int} (h : exV .down v = some s) : vl s ≤ v := rd_down (exV_some h).2
theorem exV_up {v : Rat} {s : Int × Int} (h : exV .up v = some s) : v ≤ vl s := rd_up (exV_some h).2
theorem exV_between {m : Mn} {a v b : Rat} {sa sb : Int × Int} (h1 : a ≤ v) (h2 : v ≤ b) (ea : exV m a = some sa) (eb : exV m b = some sb) : ∃ s, exV m v = some s := by
  obtain ⟨r, hr⟩ := rd_between m h1 h2 (exV_some ea).2 (exV_some eb).2
  cases e : exV m v with
  | none => rw [exV_none e] at hr; cases hr
  | some s => exact ⟨s, rfl⟩
theorem vl_at {a b p : Int} (h : p ≤ b) : vl (a, b) = ((a * 10 ^ (b - p).toNat : Int) : Rat) * T p := by
  unfold vl
  simp only
  rw [Rat.intCast_mul, ← T_nat, Rat.mul_assoc, ← T_add]
  congr 2
  omega
end LW
namespace LW
open PySem PySem.Spec PyProof.Rows L2 DN
/-! ### a sign sought in a text -/
end LW
namespace LW
open PySem PySem.Spec PyProof.Rows L2 DN
open TL (numL numL_lt numL_step numL_digits numL_ne tl_num)
open NumText (AllDigits digitsVal)
local macro_rules | `(tactic| walk_at "ev") => `(tactic| simp -implicitDefEqProofs (disch := first | omega | (simp only [List.length_cons, List.length_nil]; omega)) only [mkTR_ok, mkLR_ok, ix_tm, ix_lm, ix_t0, ix_t1, ix_t2, ix_t3, ix_t4, ix_t5, ix_t6, ix_t7, ix_l0, ix_l1, ix_l2, ix_l3, ix_l4, ix_l5, ix_l6, ix_l7, bin_def, una_def, cal_def, acons_def, anil_def, con_def, callD_def, tst_def, sseq_def, sret_def, sasg_def, sif_def, sskip_def, sraise_def, andQ_def, orQ_def, notQ_def, andE_def, orE_def, notE_def, mkT_def, mkL_def, slc_def, psm_def, pno_def, sfor_def, chn_def, var_zero, var_succ, app2_ok, app1_ok, appL_ok, consR_ok, ofO_some, call0, call1, call2, call3, call4, call5, tstR_ok, seqR_nx, seqR_rt, seqR_ex, retR_ok, retR_ex, asgR_n, asgR_ex, asgR_2, asgR_2L, asgR_3, ifR_t, ifR_f, finR_rt, finR_nx, finR_ex, andR_t, andR_f, orR_t, orR_f, notR_ok, andER_t, andER_f, orER_t, orER_f, notER_ok, psmR_ok, slcR_ok, forR_ok, chn_le, chn_lt, add_ii, sub_ii, neg_i, lt_ii, le_ii, gt_ii, ge_ii, eq_ii, ne_ii, eq_ss, ne_ss, eq_bb, ne_bb, mul_l, mul_r, div_s, mod_p, len_t, len_l, len_a, abs_i, max_ii, min_ii, int_i, int_b, int_t, int_f, List.set_cons_zero, List.set_cons_succ, Bool.not_true, Bool.not_false, decide_true, decide_false, sown_def, ownRR_ok, frz_lst, frz_z, frz_u, frz_succ, sfrz_def, bor_def, borQ_def, flat_i, flat_s, flat_b, flat_n, own_zero, own_succ, sapp_def, sput_def, ixO_def])
local macro_rules | `(tactic| simp?! [$ls,*]) => `(tactic| simp -implicitDefEqProofs (disch := first | omega | (simp only [List.length_cons, List.length_nil]; omega)) only [mkTR_ok, mkLR_ok, ix_tm, ix_lm, ix_t0, ix_t1, ix_t2, ix_t3, ix_t4, ix_t5, ix_t6, ix_t7, ix_l0, ix_l1, ix_l2, ix_l3, ix_l4, ix_l5, ix_l6, ix_l7, bin_def, una_def, cal_def, acons_def, anil_def, con_def, callD_def, tst_def, sseq_def, sret_def, sasg_def, sif_def, sskip_def, sraise_def, andQ_def, orQ_def, notQ_def, andE_def, orE_def, notE_def, mkT_def, mkL_def, slc_def, psm_def, pno_def, sfor_def, chn_def, var_zero, var_succ, app2_ok, app1_ok, appL_ok, consR_ok, ofO_some, call0, call1, call2, call3, call4, call5, tstR_ok, seqR_nx, seqR_rt, seqR_ex, retR_ok, retR_ex, asgR_n, asgR_ex, asgR_2, asgR_2L, asgR_3, ifR_t, ifR_f, finR_rt, finR_nx, finR_ex, andR_t, andR_f, orR_t, orR_f, notR_ok, andER_t, andER_f, orER_t, orER_f, notER_ok, psmR_ok, slcR_ok, forR_ok, chn_le, chn_lt, add_ii, sub_ii, neg_i, lt_ii, le_ii, gt_ii, ge_ii, eq_ii, ne_ii, eq_ss, ne_ss, eq_bb, ne_bb, mul_l, mul_r, div_s, mod_p, len_t, len_l, len_a, abs_i, max_ii, min_ii, int_i, int_b, int_t, int_f, List.set_cons_zero, List.set_cons_succ, Bool.not_true, Bool.not_false, decide_true, decide_false, sown_def, ownRR_ok, frz_lst, frz_z, frz_u, frz_succ, sfrz_def, bor_def, borQ_def, flat_i, flat_s, flat_b, flat_n, own_zero, own_succ, sapp_def, sput_def, ixO_def, $ls,*])
def N_ten : List Str := ["power"]
def g_ten : Rho → SR :=
  (sret (cal intD (acons (bop addD (con (.str "1")) (bop mulD (con (.str "0")) (var 0))) anil)))
def d_ten (ds : List D) : Res D := runB 1 g_ten ds
theorem v_ten {a0 : D} : d_ten [a0] = finR (g_ten [.z a0]) := runB_eq rfl
def N_figures_of : List Str := ["whole"]
def g_figures_of : Rho → SR :=
  (sret (cal lenD (acons (cal strD (acons (cal absD (acons (var 0) anil)) anil)) anil)))
def d_figures_of (ds : List D) : Res D := runB 1 g_figures_of ds
theorem v_figures_of {a0 : D} : d_figures_of [a0] = finR (g_figures_of [.z a0]) := runB_eq rfl
def N_height : List Str := ["number"]
def g_height : Rho → SR :=
  (sret (bop subD (bop addD (bop ixD (var 0) (con (.int 1))) (callD 1 d_figures_of (acons (bop ixD (var 0) (con (.int 0))) anil))) (con (.int 1))))
def d_height (ds : List D) : Res D := runB 1 g_height ds
theorem v_height {a0 : D} : d_height [a0] = finR (g_height [.z a0]) := runB_eq rfl
def N__law_cell_at : List Str := ["script", "k"]
def t1__law_cell_at : Rho → SR :=
  (sret (con (.int 0)))
def g__law_cell_at : Rho → SR :=
  sseq (sif (tst (bop ltD (var 1) (cal lenD (acons (var 0) anil)))) (sret (bop ixD (var 0) (var 1))) sskip) (t1__law_cell_at)
def d__law_cell_at (ds : List D) : Res D := runB 2 g__law_cell_at ds
theorem v__law_cell_at {a0 a1 : D} : d__law_cell_at [a0, a1] = finR (g__law_cell_at [.z a0, .z a1]) := runB_eq rfl
def N__law_mixed : List Str := ["script", "k", "drawn"]
def t1__law_mixed : Rho → SR :=
  (sret (bop modD (bop addD (bop addD (bop mulD (var 2) (var 2)) (bop mulD (con (.int 7)) (var 2))) (var 1)) (con (.int 2147483629))))
def g__law_mixed : Rho → SR :=
  sseq (sasg (bop modD (bop mulD (bop addD (bop addD (callD 2 d__law_cell_at (acons (var 0) (acons (var 1) anil))) (bop mulD (con (.int 7919)) (var 1))) (con (.int 1))) (con (.int 48271))) (con (.int 2147483647))) (gn 2)) (t1__law_mixed)
def d__law_mixed (ds : List D) : Res D := runB 3 g__law_mixed ds
theorem v__law_mixed {a0 a1 : D} : d__law_mixed [a0, a1] = finR (g__law_mixed [.z a0, .z a1, .u]) := runB_eq rfl
def N__law_height : List Str := ["number"]
def g__law_height : Rho → SR :=
  (sret (bop subD (bop addD (bop ixD (var 0) (con (.int 1))) (cal lenD (acons (cal strD (acons (cal absD (acons (bop ixD (var 0) (con (.int 0))) anil)) anil)) anil))) (con (.int 1))))
def d__law_height (ds : List D) : Res D := runB 1 g__law_height ds
theorem v__law_height {a0 : D} : d__law_height [a0] = finR (g__law_height [.z a0]) := runB_eq rfl
def N__law_is_number : List Str := ["thing", "part"]
def b1__law_is_number : Rho → SR :=
  (sif (orQ (notQ (tst (cal isiD (acons (var 1) (acons (con (.ty "int")) anil))))) (tst (cal isiD (acons (var 1) (acons (con (.ty "bool")) anil))))) (sret (con (.bl false))) sskip)
def t3__law_is_number : Rho → SR :=
  (sret (andE (bop ltD (cal absD (acons (bop ixD (var 0) (con (.int 0))) anil)) (con (.int 100000000))) (andE (bop neD (bop modD (bop ixD (var 0) (con (.int 0))) (con (.int 10))) (con (.int 0))) (chn leD leD (una negD (con (.int 40))) (callD 1 d__law_height (acons (var 0) anil)) (con (.int 40))))))
def t2__law_is_number : Rho → SR :=
  sseq (sif (tst (bop eqD (bop ixD (var 0) (con (.int 0))) (con (.int 0)))) (sret (bop eqD (bop ixD (var 0) (con (.int 1))) (con (.int 0)))) sskip) (t3__law_is_number)
def t1__law_is_number : Rho → SR :=
  sseq (sfor (its (var 0)) (gn 1) b1__law_is_number) (t2__law_is_number)
def g__law_is_number : Rho → SR :=
  sseq (sif (orQ (notQ (tst (cal isiD (acons (var 0) (acons (con (.ty "tuple")) anil))))) (tst (bop neD (cal lenD (acons (var 0) anil)) (con (.int 2))))) (sret (con (.bl false))) sskip) (t1__law_is_number)
def d__law_is_number (ds : List D) : Res D := runB 2 g__law_is_number ds
theorem v__law_is_number {a0 : D} : d__law_is_number [a0] = finR (g__law_is_number [.z a0, .u]) := runB_eq rfl
def N_taken : List Str := ["whole", "rest", "lower", "manner"]
def t3_taken : Rho → SR :=
  (sret (bop addD (var 0) (cal intD (acons (bop gtD (bop mulD (con (.int 2)) (var 1)) (var 2)) anil))))
def t2_taken : Rho → SR :=
  sseq (sif (tst (bop eqD (bop mulD (con (.int 2)) (var 1)) (var 2))) (sret (bop addD (var 0) (cal intD (acons (orE (bop eqD (var 3) (con (.str "away"))) (bop eqD (bop modD (var 0) (con (.int 2))) (con (.int 1)))) anil)))) sskip) (t3_taken)
def t1_taken : Rho → SR :=
  sseq (sif (tst (bop eqD (var 3) (con (.str "more")))) (sret (bop addD (var 0) (con (.int 1)))) sskip) (t2_taken)
def g_taken : Rho → SR :=
  sseq (sif (orQ (tst (bop eqD (var 1) (con (.int 0)))) (tst (bop eqD (var 3) (con (.str "nought"))))) (sret (var 0)) sskip) (t1_taken)
def d_taken (ds : List D) : Res D := runB 4 g_taken ds
theorem v_taken {a0 a1 a2 a3 : D} : d_taken [a0, a1, a2, a3] = finR (g_taken [.z a0, .z a1, .z a2, .z a3]) := runB_eq rfl
def N_by_size : List Str := ["manner", "below"]
def t2_by_size : Rho → SR :=
  (sret (var 0))
def t1_by_size : Rho → SR :=
  sseq (sif (tst (bop eqD (var 0) (con (.str "down")))) (sret (bop ixD (mkL (acons (con (.str "nought")) (acons (con (.str "more")) anil))) (cal intD (acons (var 1) anil)))) sskip) (t2_by_size)
def g_by_size : Rho → SR :=
  sseq (sif (tst (bop eqD (var 0) (con (.str "up")))) (sret (bop ixD (mkL (acons (con (.str "more")) (acons (con (.str "nought")) anil))) (cal intD (acons (var 1) anil)))) sskip) (t1_by_size)
def d_by_size (ds : List D) : Res D := runB 2 g_by_size ds
theorem v_by_size {a0 a1 : D} : d_by_size [a0, a1] = finR (g_by_size [.z a0, .z a1]) := runB_eq rfl
def N_fitted : List Str := ["whole", "power", "below", "manner", "sign"]
def c1_fitted : Rho → Res Bool :=
  (tst (bop eqD (bop modD (var 0) (con (.int 10))) (con (.int 0))))
def b2_fitted : Rho → SR :=
  (sseq (sasg (bop divD (var 0) (con (.int 10))) (gn 0))
    (sasg (bop addD (var 1) (con (.int 1))) (gn 1)))
def t5_fitted : Rho → SR :=
  (sret (mkT (acons (bop mulD (var 4) (var 0)) (acons (var 1) anil))))
def t4_fitted : Rho → SR :=
  sseq (sif (tst (bop ltD (callD 1 d_height (acons (mkT (acons (var 0) (acons (var 1) anil))) anil)) (una negD (con (.int 40))))) (sseq (sif (tst (bop eqD (var 3) (con (.str "more")))) (sret (mkT (acons (var 4) (acons (una negD (con (.int 40))) anil)))) sskip)
    (sret (mkT (acons (con (.int 0)) (acons (con (.int 0)) anil))))) sskip) (t5_fitted)
def t3_fitted : Rho → SR :=
  sseq (sif (tst (bop gtD (callD 1 d_height (acons (mkT (acons (var 0) (acons (var 1) anil))) anil)) (con (.int 40)))) (sraise "TooGreat") sskip) (t4_fitted)
def t2_fitted : Rho → SR :=
  sseq (sasg (bop subD (con (.int 1)) (bop mulD (con (.int 2)) (cal intD (acons (var 2) anil)))) (gn 4)) (t3_fitted)
def t1_fitted : Rho → SR :=
  sseq (whileD c1_fitted b2_fitted 100000) (t2_fitted)
def g_fitted : Rho → SR :=
  sseq (sif (tst (bop eqD (var 0) (con (.int 0)))) (sret (mkT (acons (con (.int 0)) (acons (con (.int 0)) anil)))) sskip) (t1_fitted)
def d_fitted (ds : List D) : Res D := runB 5 g_fitted ds
theorem v_fitted {a0 a1 a2 a3 : D} : d_fitted [a0, a1, a2, a3] = finR (g_fitted [.z a0, .z a1, .z a2, .z a3, .u]) := runB_eq rfl
def N_power_for : List Str := ["upper", "lower", "power"]
def c1_power_for : Rho → Res Bool :=
  (tst (bop geD (bop mulD (var 0) (callD 1 d_ten (acons (cal maxD (acons (una negD (var 2)) (acons (con (.int 0)) anil))) anil))) (bop mulD (bop mulD (var 1) (callD 1 d_ten (acons (cal maxD (acons (var 2) (acons (con (.int 0)) anil))) anil))) (callD 1 d_ten (acons (con (.int 8)) anil)))))
def b2_power_for : Rho → SR :=
  (sasg (bop addD (var 2) (con (.int 1))) (gn 2))
def t2_power_for : Rho → SR :=
  (sret (var 2))
def t1_power_for : Rho → SR :=
  sseq (whileD c1_power_for b2_power_for 100000) (t2_power_for)
def g_power_for : Rho → SR :=
  sseq (sasg (bop subD (bop subD (callD 1 d_figures_of (acons (var 0) anil)) (callD 1 d_figures_of (acons (var 1) anil))) (con (.int 8))) (gn 2)) (t1_power_for)
def d_power_for (ds : List D) : Res D := runB 3 g_power_for ds
theorem v_power_for {a0 a1 : D} : d_power_for [a0, a1] = finR (g_power_for [.z a0, .z a1, .u]) := runB_eq rfl
def N_exact : List Str := ["upper", "lower", "manner", "below", "power", "how"]
def t8_exact : Rho → SR :=
  (sret (callD 4 d_fitted (acons (callD 4 d_taken (acons (bop divD (var 0) (var 1)) (acons (bop modD (var 0) (var 1)) (acons (var 1) (acons (var 5) anil))))) (acons (var 4) (acons (var 3) (acons (var 5) anil))))))
def t7_exact : Rho → SR :=
  sseq (sasg (callD 2 d_by_size (acons (var 2) (acons (var 3) anil))) (gn 5)) (t8_exact)
def t6_exact : Rho → SR :=
  sseq (sasg (bop mulD (var 1) (callD 1 d_ten (acons (cal maxD (acons (var 4) (acons (con (.int 0)) anil))) anil))) (gn 1)) (t7_exact)
def t5_exact : Rho → SR :=
  sseq (sasg (bop mulD (var 0) (callD 1 d_ten (acons (cal maxD (acons (una negD (var 4)) (acons (con (.int 0)) anil))) anil))) (gn 0)) (t6_exact)
def t4_exact : Rho → SR :=
  sseq (sasg (callD 2 d_power_for (acons (var 0) (acons (var 1) anil))) (gn 4)) (t5_exact)
def t3_exact : Rho → SR :=
  sseq (sasg (cal absD (acons (var 1) anil)) (gn 1)) (t4_exact)
def t2_exact : Rho → SR :=
  sseq (sasg (cal absD (acons (var 0) anil)) (gn 0)) (t3_exact)
def t1_exact : Rho → SR :=
  sseq (sasg (bop neD (bop ltD (var 0) (con (.int 0))) (bop ltD (var 1) (con (.int 0)))) (gn 3)) (t2_exact)
def g_exact : Rho → SR :=
  sseq (sif (tst (bop eqD (var 0) (con (.int 0)))) (sret (mkT (acons (con (.int 0)) (acons (con (.int 0)) anil)))) sskip) (t1_exact)
def d_exact (ds : List D) : Res D := runB 6 g_exact ds
theorem v_exact {a0 a1 a2 : D} : d_exact [a0, a1, a2] = finR (g_exact [.z a0, .z a1, .z a2, .u, .u, .u]) := runB_eq rfl
def N__law_ten : List Str := ["power", "found", "k"]
def b1__law_ten : Rho → SR :=
  (sasg (bop mulD (var 1) (con (.int 10))) (gn 1))
def t2__law_ten : Rho → SR :=
  (sret (var 1))
def t1__law_ten : Rho → SR :=
  sseq (sfor (rng1 (acons (var 0) anil)) (gn 2) b1__law_ten) (t2__law_ten)
def g__law_ten : Rho → SR :=
  sseq (sasg (con (.int 1)) (gn 1)) (t1__law_ten)
def d__law_ten (ds : List D) : Res D := runB 3 g__law_ten ds
theorem v__law_ten {a0 : D} : d__law_ten [a0] = finR (g__law_ten [.z a0, .u, .u]) := runB_eq rfl
def N__law_fraction : List Str := ["script", "k", "number", "upper", "lower"]
def t6__law_fraction : Rho → SR :=
  (sret (mkT (acons (var 3) (acons (bop mulD (var 4) (bop subD (con (.int 1)) (bop mulD (con (.int 2)) (bop modD (bop divD (var 2) (con (.int 524288))) (con (.int 2)))))) anil))))
def t5__law_fraction : Rho → SR :=
  sseq (sif (tst (bop eqD (bop modD (bop divD (var 2) (con (.int 65536))) (con (.int 2))) (con (.int 1)))) (sseq (sasg (bop addD (bop mulD (con (.int 2)) (var 3)) (con (.int 1))) (gn 3))
    (sasg (bop mulD (var 4) (bop ixD (mkT (acons (con (.int 2)) (acons (con (.int 20)) (acons (con (.int 200)) (acons (con (.int 2000)) anil))))) (bop modD (bop divD (var 2) (con (.int 131072))) (con (.int 4))))) (gn 4))) sskip) (t6__law_fraction)
def t4__law_fraction : Rho → SR :=
  sseq (sif (tst (bop eqD (bop modD (bop divD (var 2) (con (.int 4096))) (con (.int 3))) (con (.int 2)))) (sseq (sasg (bop mulD (var 3) (callD 1 d__law_ten (acons (bop modD (bop divD (var 2) (con (.int 16384))) (con (.int 50))) anil))) (gn 3))
    (sasg (bop mulD (var 4) (callD 1 d__law_ten (acons (bop modD (bop divD (var 2) (con (.int 1048576))) (con (.int 60))) anil))) (gn 4))) sskip) (t5__law_fraction)
def t3__law_fraction : Rho → SR :=
  sseq (sif (tst (bop eqD (bop modD (bop divD (var 2) (con (.int 4096))) (con (.int 3))) (con (.int 1)))) (sseq (sasg (bop addD (bop mulD (var 3) (con (.int 1000000007))) (callD 2 d__law_mixed (acons (var 0) (acons (bop addD (var 1) (con (.int 2))) anil)))) (gn 3))
    (sasg (bop mulD (var 4) (bop ixD (mkT (acons (con (.int 10)) (acons (con (.int 1)) (acons (con (.int 100000)) anil)))) (bop modD (bop divD (var 2) (con (.int 16384))) (con (.int 3))))) (gn 4))) sskip) (t4__law_fraction)
def t2__law_fraction : Rho → SR :=
  sseq (sasg (bop ixD (mkT (acons (con (.int 1)) (acons (con (.int 2)) (acons (con (.int 8)) (acons (con (.int 3)) (acons (con (.int 7)) (acons (con (.int 64)) (acons (con (.int 9999)) (acons (bop addD (con (.int 1)) (bop modD (callD 2 d__law_mixed (acons (var 0) (acons (bop addD (var 1) (con (.int 2))) anil))) (con (.int 1000)))) anil))))))))) (bop modD (bop divD (var 2) (con (.int 256))) (con (.int 8)))) (gn 4)) (t3__law_fraction)
def t1__law_fraction : Rho → SR :=
  sseq (sasg (bop subD (bop modD (callD 2 d__law_mixed (acons (var 0) (acons (bop addD (var 1) (con (.int 1))) anil))) (bop ixD (mkT (acons (con (.int 100)) (acons (con (.int 10000)) (acons (con (.int 2000000000)) (acons (con (.int 2000000000)) anil))))) (bop modD (var 2) (con (.int 4))))) (bop modD (bop divD (var 2) (con (.int 4))) (con (.int 50)))) (gn 3)) (t2__law_fraction)
def g__law_fraction : Rho → SR :=
  sseq (sasg (callD 2 d__law_mixed (acons (var 0) (acons (var 1) anil))) (gn 2)) (t1__law_fraction)
def d__law_fraction (ds : List D) : Res D := runB 5 g__law_fraction ds
theorem v__law_fraction {a0 a1 : D} : d__law_fraction [a0, a1] = finR (g__law_fraction [.z a0, .z a1, .u, .u, .u]) := runB_eq rfl
def N__law_side : List Str := ["number", "upper", "lower", "left", "right"]
def t2__law_side : Rho → SR :=
  (sret (bop subD (cal intD (acons (bop gtD (var 3) (var 4)) anil)) (cal intD (acons (bop ltD (var 3) (var 4)) anil))))
def t1__law_side : Rho → SR :=
  sseq (sasg (bop mulD (var 1) (callD 1 d__law_ten (acons (cal maxD (acons (una negD (bop ixD (var 0) (con (.int 1)))) (acons (con (.int 0)) anil))) anil))) (gn 4)) (t2__law_side)
def g__law_side : Rho → SR :=
  sseq (sasg (bop mulD (bop mulD (bop ixD (var 0) (con (.int 0))) (var 2)) (callD 1 d__law_ten (acons (cal maxD (acons (bop ixD (var 0) (con (.int 1))) (acons (con (.int 0)) anil))) anil))) (gn 3)) (t1__law_side)
def d__law_side (ds : List D) : Res D := runB 5 g__law_side ds
theorem v__law_side {a0 a1 a2 : D} : d__law_side [a0, a1, a2] = finR (g__law_side [.z a0, .z a1, .z a2, .u, .u]) := runB_eq rfl
def N__law_far : List Str := ["number", "upper", "lower", "scale"]
def t1__law_far : Rho → SR :=
  (sret (mkT (acons (cal absD (acons (bop subD (bop mulD (bop mulD (bop ixD (var 0) (con (.int 0))) (var 2)) (callD 1 d__law_ten (acons (cal maxD (acons (bop ixD (var 0) (con (.int 1))) (acons (con (.int 0)) anil))) anil))) (bop mulD (var 1) (var 3))) anil)) (acons (bop mulD (var 2) (var 3)) anil))))
def g__law_far : Rho → SR :=
  sseq (sasg (callD 1 d__law_ten (acons (cal maxD (acons (una negD (bop ixD (var 0) (con (.int 1)))) (acons (con (.int 0)) anil))) anil)) (gn 3)) (t1__law_far)
def d__law_far (ds : List D) : Res D := runB 4 g__law_far ds
theorem v__law_far {a0 a1 a2 : D} : d__law_far [a0, a1, a2] = finR (g__law_far [.z a0, .z a1, .z a2, .u]) := runB_eq rfl
def N__law_is_farther : List Str := ["one", "other", "upper", "lower", "left", "right"]
def t2__law_is_farther : Rho → SR :=
  (sret (bop gtD (bop mulD (bop ixD (var 4) (con (.int 0))) (bop ixD (var 5) (con (.int 1)))) (bop mulD (bop ixD (var 5) (con (.int 0))) (bop ixD (var 4) (con (.int 1))))))
def t1__law_is_farther : Rho → SR :=
  sseq (sasg (callD 3 d__law_far (acons (var 1) (acons (var 2) (acons (var 3) anil)))) (gn 5)) (t2__law_is_farther)
def g__law_is_farther : Rho → SR :=
  sseq (sasg (callD 3 d__law_far (acons (var 0) (acons (var 2) (acons (var 3) anil)))) (gn 4)) (t1__law_is_farther)
def d__law_is_farther (ds : List D) : Res D := runB 6 g__law_is_farther ds
theorem v__law_is_farther {a0 a1 a2 a3 : D} : d__law_is_farther [a0, a1, a2, a3] = finR (g__law_is_farther [.z a0, .z a1, .z a2, .z a3, .u, .u]) := runB_eq rfl
def topS (i : Nat) : Stmt := PySem.Challenge.pw_pocketpile_k05_whole_nearest.main.body.getD i (.Pass ⟨0, 0, 0, 0⟩)
abbrev s_ten : Stmt := topS 10
abbrev s_figures_of : Stmt := topS 11
abbrev s_height : Stmt := topS 12
abbrev s_taken : Stmt := topS 13
abbrev s_by_size : Stmt := topS 14
abbrev s_fitted : Stmt := topS 15
abbrev s_power_for : Stmt := topS 16
abbrev s_exact : Stmt := topS 17
abbrev s__law_cell_at : Stmt := topS 19
abbrev s__law_mixed : Stmt := topS 20
abbrev s__law_ten : Stmt := topS 22
abbrev s__law_height : Stmt := topS 23
abbrev s__law_is_number : Stmt := topS 26
abbrev s__law_told : Stmt := topS 27
abbrev s__law_fraction : Stmt := topS 28
abbrev s__law_side : Stmt := topS 29
abbrev s__law_far : Stmt := topS 30
abbrev s__law_is_farther : Stmt := topS 31
abbrev s_law : Stmt := topS 32
def tfs : List He.Defn := [("law", none)]
def tabT (K : PySem.W.Frag) : List (Addr × Str) := [((He.cT K ("law", none)).2, ("law" : Str) ++ ".<locals>." ++ "<lambda>")]
def huB (K : PySem.W.Frag) (x : Str) : Bool := (tabT K).all fun p => !decide (p.1 = (He.cT K (x, none)).2) || decide (p.2 = x ++ ".<locals>." ++ "<lambda>")
theorem huB_ok {K : PySem.W.Frag} {x : Str} (h : huB K x = true) : ∀ p ∈ tabT K, p.1 = (He.cT K (x, none)).2 → p.2 = x ++ ".<locals>." ++ "<lambda>" := fun p hp e => by
  have := List.all_eq_true.mp h p hp
  simpa [e] using this
theorem sc__law_told : FnScope ["deed", "found", "e", "kinds"] ["deed"] (defScope s__law_told) := ⟨rfl, rfl, rfl, by decide +kernel, rfl, by decide +kernel, by decide +kernel⟩
theorem toldS : ToldS (defScope s__law_told) := ⟨by decide +kernel, by decide +kernel, rfl, rfl, rfl⟩
structure Top (w : World) (K : PySem.W.Frag) (mg : Str → Option Value) : Prop where
  f_ten : ∃ fd, FunD K "ten" "ten" (defArgs s_ten) (defBody s_ten) (defScope s_ten) [] [] (He.ga K "ten") fd
  m_ten : mg "ten" = some (.ref (He.ga K "ten"))
  f_figures_of : ∃ fd, FunD K "figures_of" "figures_of" (defArgs s_figures_of) (defBody s_figures_of) (defScope s_figures_of) [] [] (He.ga K "figures_of") fd
  m_figures_of : mg "figures_of" = some (.ref (He.ga K "figures_of"))
  f_height : ∃ fd, FunD K "height" "height" (defArgs s_height) (defBody s_height) (defScope s_height) [] [] (He.ga K "height") fd
  m_height : mg "height" = some (.ref (He.ga K "height"))
  f_taken : ∃ fd, FunD K "taken" "taken" (defArgs s_taken) (defBody s_taken) (defScope s_taken) [] [] (He.ga K "taken") fd
  m_taken : mg "taken" = some (.ref (He.ga K "taken"))
  f_by_size : ∃ fd, FunD K "by_size" "by_size" (defArgs s_by_size) (defBody s_by_size) (defScope s_by_size) [] [] (He.ga K "by_size") fd
  m_by_size : mg "by_size" = some (.ref (He.ga K "by_size"))
  f_fitted : ∃ fd, FunD K "fitted" "fitted" (defArgs s_fitted) (defBody s_fitted) (defScope s_fitted) [] [] (He.ga K "fitted") fd
  m_fitted : mg "fitted" = some (.ref (He.ga K "fitted"))
  f_power_for : ∃ fd, FunD K "power_for" "power_for" (defArgs s_power_for) (defBody s_power_for) (defScope s_power_for) [] [] (He.ga K "power_for") fd
  m_power_for : mg "power_for" = some (.ref (He.ga K "power_for"))
  f_exact : ∃ fd, FunD K "exact" "exact" (defArgs s_exact) (defBody s_exact) (defScope s_exact) [] [] (He.ga K "exact") fd
  m_exact : mg "exact" = some (.ref (He.ga K "exact"))
  f__law_cell_at : ∃ fd, FunD K "_law_cell_at" "_law_cell_at" (defArgs s__law_cell_at) (defBody s__law_cell_at) (defScope s__law_cell_at) [] [] (He.ga K "_law_cell_at") fd
  m__law_cell_at : mg "_law_cell_at" = some (.ref (He.ga K "_law_cell_at"))
  f__law_mixed : ∃ fd, FunD K "_law_mixed" "_law_mixed" (defArgs s__law_mixed) (defBody s__law_mixed) (defScope s__law_mixed) [] [] (He.ga K "_law_mixed") fd
  m__law_mixed : mg "_law_mixed" = some (.ref (He.ga K "_law_mixed"))
  f__law_ten : ∃ fd, FunD K "_law_ten" "_law_ten" (defArgs s__law_ten) (defBody s__law_ten) (defScope s__law_ten) [] [] (He.ga K "_law_ten") fd
  m__law_ten : mg "_law_ten" = some (.ref (He.ga K "_law_ten"))
  f__law_height : ∃ fd, FunD K "_law_height" "_law_height" (defArgs s__law_height) (defBody s__law_height) (defScope s__law_height) [] [] (He.ga K "_law_height") fd
  m__law_height : mg "_law_height" = some (.ref (He.ga K "_law_height"))
  f__law_is_number : ∃ fd, FunD K "_law_is_number" "_law_is_number" (defArgs s__law_is_number) (defBody s__law_is_number) (defScope s__law_is_number) [] [] (He.ga K "_law_is_number") fd
  m__law_is_number : mg "_law_is_number" = some (.ref (He.ga K "_law_is_number"))
  f__law_told : ∃ fd, FunD K "_law_told" "_law_told" (defArgs s__law_told) (defBody s__law_told) (defScope s__law_told) [] [] (He.ga K "_law_told") fd
  m__law_told : mg "_law_told" = some (.ref (He.ga K "_law_told"))
  f__law_fraction : ∃ fd, FunD K "_law_fraction" "_law_fraction" (defArgs s__law_fraction) (defBody s__law_fraction) (defScope s__law_fraction) [] [] (He.ga K "_law_fraction") fd
  m__law_fraction : mg "_law_fraction" = some (.ref (He.ga K "_law_fraction"))
  f__law_side : ∃ fd, FunD K "_law_side" "_law_side" (defArgs s__law_side) (defBody s__law_side) (defScope s__law_side) [] [] (He.ga K "_law_side") fd
  m__law_side : mg "_law_side" = some (.ref (He.ga K "_law_side"))
  f__law_far : ∃ fd, FunD K "_law_far" "_law_far" (defArgs s__law_far) (defBody s__law_far) (defScope s__law_far) [] [] (He.ga K "_law_far") fd
  m__law_far : mg "_law_far" = some (.ref (He.ga K "_law_far"))
  f__law_is_farther : ∃ fd, FunD K "_law_is_farther" "_law_is_farther" (defArgs s__law_is_farther) (defBody s__law_is_farther) (defScope s__law_is_farther) [] [] (He.ga K "_law_is_farther") fd
  m__law_is_farther : mg "_law_is_farther" = some (.ref (He.ga K "_law_is_farther"))
  f_law : ∃ fd, FunD K "law" "law" (defArgs s_law) (defBody s_law) (defScope s_law) [] [] (He.ga K "law") fd
  m_law : mg "law" = some (.ref (He.ga K "law"))
  b_int : mg "int" = none
  b_abs : mg "abs" = none
  b_str : mg "str" = none
  b_len : mg "len" = none
  b_max : mg "max" = none
  b_range : mg "range" = none
  b_tuple : mg "tuple" = none
  b_isinstance : mg "isinstance" = none
  b_bool : mg "bool" = none
  b_zip : mg "zip" = none
  c_HIGHEST : ∃ t, mg "HIGHEST" = some (.int (40) t)
  c_MOST : ∃ t, mg "MOST" = some (.int (8) t)
  e_TooGreat : ExcN K mg "TooGreat"
  told : ToldC K mg
  hu_law : ∀ p ∈ tabT K, p.1 = (He.cT K ("law", none)).2 → p.2 = ("law" : Str) ++ ".<locals>." ++ "<lambda>"
section
variable {P : Program} {w : World} {K : PySem.W.Frag} {mg : Str → Option Value} {base : Heap} {T : List (Addr × Str)}
theorem sc_ten : FnScope N_ten ["power"] (defScope s_ten) := ⟨rfl, rfl, rfl, by decide +kernel, rfl, by decide +kernel, by decide +kernel⟩
theorem ok_ten (Z : Top w K mg) : OkD P w K mg base T 1 "ten" 1 d_ten := by
  obtain ⟨fd, Fd⟩ := Z.f_ten
  refine ⟨⟨fd, ["power"], fn_ok Fd sc_ten rfl fun cdv A outer s0 H0 E F0 hr => ?_, Fd.bindsN (ps := ["power"]) (fun _ _ _ _ _ _ us hl => match us, hl with | [_], _ => rfl)⟩, Fd.kp, Z.m_ten⟩
  have tk : Takes (cxOf (L2.CX P w) P w K mg base N_ten "ten" (defScope s_ten) (He.ga K "ten") cdv A outer s0 H0 E) (WofE E) := takes_of rfl rfl rfl rfl
  have po : PassesOwn (model P w) (cxOf (L2.CX P w) P w K mg base N_ten "ten" (defScope s_ten) (He.ga K "ten") cdv A outer s0 H0 E).A (cxOf (L2.CX P w) P w K mg base N_ten "ten" (defScope s_ten) (He.ga K "ten") cdv A outer s0 H0 E).env (cxOf (L2.CX P w) P w K mg base N_ten "ten" (defScope s_ten) (He.ga K "ten") cdv A outer s0 H0 E).xe := passes_of (X := (cxOf (L2.CX P w) P w K mg base N_ten "ten" (defScope s_ten) (He.ga K "ten") cdv A outer s0 H0 E)) rfl
  have hu := hr.units
  exact (s_one (s_ret (e_callTy c_int rfl Z.b_int bt_int (a_cons (e_bin o_add e_str (e_bin o_mul e_str (e_var (pv 0)))) a_nil))))
theorem sc_figures_of : FnScope N_figures_of ["whole"] (defScope s_figures_of) := ⟨rfl, rfl, rfl, by decide +kernel, rfl, by decide +kernel, by decide +kernel⟩
theorem ok_figures_of (Z : Top w K mg) : OkD P w K mg base T 1 "figures_of" 1 d_figures_of := by
  obtain ⟨fd, Fd⟩ := Z.f_figures_of
  refine ⟨⟨fd, ["whole"], fn_ok Fd sc_figures_of rfl fun cdv A outer s0 H0 E F0 hr => ?_, Fd.bindsN (ps := ["whole"]) (fun _ _ _ _ _ _ us hl => match us, hl with | [_], _ => rfl)⟩, Fd.kp, Z.m_figures_of⟩
  have tk : Takes (cxOf (L2.CX P w) P w K mg base N_figures_of "figures_of" (defScope s_figures_of) (He.ga K "figures_of") cdv A outer s0 H0 E) (WofE E) := takes_of rfl rfl rfl rfl
  have po : PassesOwn (model P w) (cxOf (L2.CX P w) P w K mg base N_figures_of "figures_of" (defScope s_figures_of) (He.ga K "figures_of") cdv A outer s0 H0 E).A (cxOf (L2.CX P w) P w K mg base N_figures_of "figures_of" (defScope s_figures_of) (He.ga K "figures_of") cdv A outer s0 H0 E).env (cxOf (L2.CX P w) P w K mg base N_figures_of "figures_of" (defScope s_figures_of) (He.ga K "figures_of") cdv A outer s0 H0 E).xe := passes_of (X := (cxOf (L2.CX P w) P w K mg base N_figures_of "figures_of" (defScope s_figures_of) (He.ga K "figures_of") cdv A outer s0 H0 E)) rfl
  have hu := hr.units
  exact (s_one (s_ret (e_callB c_len rfl Z.b_len bt_len (a_cons (e_callTy c_str rfl Z.b_str bt_str (a_cons (e_callB c_abs rfl Z.b_abs bt_abs (a_cons (e_var (pv 0)) a_nil)) a_nil)) a_nil))))
theorem sc_height : FnScope N_height ["number"] (defScope s_height) := ⟨rfl, rfl, rfl, by decide +kernel, rfl, by decide +kernel, by decide +kernel⟩
theorem ok_height (Z : Top w K mg) : OkD P w K mg base T 2 "height" 1 d_height := by
  obtain ⟨fd, Fd⟩ := Z.f_height
  refine ⟨⟨fd, ["number"], fn_ok Fd sc_height rfl fun cdv A outer s0 H0 E F0 hr => ?_, Fd.bindsN (ps := ["number"]) (fun _ _ _ _ _ _ us hl => match us, hl with | [_], _ => rfl)⟩, Fd.kp, Z.m_height⟩
  have tk : Takes (cxOf (L2.CX P w) P w K mg base N_height "height" (defScope s_height) (He.ga K "height") cdv A outer s0 H0 E) (WofE E) := takes_of rfl rfl rfl rfl
  have po : PassesOwn (model P w) (cxOf (L2.CX P w) P w K mg base N_height "height" (defScope s_height) (He.ga K "height") cdv A outer s0 H0 E).A (cxOf (L2.CX P w) P w K mg base N_height "height" (defScope s_height) (He.ga K "height") cdv A outer s0 H0 E).env (cxOf (L2.CX P w) P w K mg base N_height "height" (defScope s_height) (He.ga K "height") cdv A outer s0 H0 E).xe := passes_of (X := (cxOf (L2.CX P w) P w K mg base N_height "height" (defScope s_height) (He.ga K "height") cdv A outer s0 H0 E)) rfl
  have hu := hr.units
  exact (s_one (s_ret (e_bin o_sub (e_bin o_add (e_ix (e_var (pv 0)) e_int) (e_call (ok_figures_of Z) hr tk rfl (a_cons (e_ix (e_var (pv 0)) e_int) a_nil))) e_int)))
theorem sc_taken : FnScope N_taken ["whole", "rest", "lower", "manner"] (defScope s_taken) := ⟨rfl, rfl, rfl, by decide +kernel, rfl, by decide +kernel, by decide +kernel⟩
theorem ok_taken (Z : Top w K mg) : OkD P w K mg base T 1 "taken" 4 d_taken := by
  obtain ⟨fd, Fd⟩ := Z.f_taken
  refine ⟨⟨fd, ["whole", "rest", "lower", "manner"], fn_ok Fd sc_taken rfl fun cdv A outer s0 H0 E F0 hr => ?_, Fd.bindsN (ps := ["whole", "rest", "lower", "manner"]) (fun _ _ _ _ _ _ us hl => match us, hl with | [_, _, _, _], _ => rfl)⟩, Fd.kp, Z.m_taken⟩
  have tk : Takes (cxOf (L2.CX P w) P w K mg base N_taken "taken" (defScope s_taken) (He.ga K "taken") cdv A outer s0 H0 E) (WofE E) := takes_of rfl rfl rfl rfl
  have po : PassesOwn (model P w) (cxOf (L2.CX P w) P w K mg base N_taken "taken" (defScope s_taken) (He.ga K "taken") cdv A outer s0 H0 E).A (cxOf (L2.CX P w) P w K mg base N_taken "taken" (defScope s_taken) (He.ga K "taken") cdv A outer s0 H0 E).env (cxOf (L2.CX P w) P w K mg base N_taken "taken" (defScope s_taken) (He.ga K "taken") cdv A outer s0 H0 E).xe := passes_of (X := (cxOf (L2.CX P w) P w K mg base N_taken "taken" (defScope s_taken) (He.ga K "taken") cdv A outer s0 H0 E)) rfl
  have hu := hr.units
  exact (s_cons (s_if (q_w (w_or (q_cmp (o_eq hu) (e_var (pv 1)) e_int (nomark _)) (w_or1 (q_cmp (o_eq hu) (e_var (pv 3)) e_str (nomark _))))) (s_one (s_ret (e_var (pv 0)))) s_nil)
    (s_cons (s_if (q_cmp (o_eq hu) (e_var (pv 3)) e_str (nomark _)) (s_one (s_ret (e_bin o_add (e_var (pv 0)) e_int))) s_nil)
    (s_cons (s_if (q_cmp (o_eq hu) (e_bin o_mul e_int (e_var (pv 1))) (e_var (pv 2)) (nomark _)) (s_one (s_ret (e_bin o_add (e_var (pv 0)) (e_callTy c_int rfl Z.b_int bt_int (a_cons (e_or (e_cmp (o_eq hu) (e_var (pv 3)) e_str (nomark _)) (e_one (e_cmp (o_eq hu) (e_bin o_mod (e_var (pv 0)) e_int) e_int (nomark _)))) a_nil))))) s_nil)
    (s_one (s_ret (e_bin o_add (e_var (pv 0)) (e_callTy c_int rfl Z.b_int bt_int (a_cons (e_cmp o_gt (e_bin o_mul e_int (e_var (pv 1))) (e_var (pv 2)) (nomark _)) a_nil))))))))
theorem sc_by_size : FnScope N_by_size ["manner", "below"] (defScope s_by_size) := ⟨rfl, rfl, rfl, by decide +kernel, rfl, by decide +kernel, by decide +kernel⟩
theorem ok_by_size (Z : Top w K mg) : OkD P w K mg base T 1 "by_size" 2 d_by_size := by
  obtain ⟨fd, Fd⟩ := Z.f_by_size
  refine ⟨⟨fd, ["manner", "below"], fn_ok Fd sc_by_size rfl fun cdv A outer s0 H0 E F0 hr => ?_, Fd.bindsN (ps := ["manner", "below"]) (fun _ _ _ _ _ _ us hl => match us, hl with | [_, _], _ => rfl)⟩, Fd.kp, Z.m_by_size⟩
  have tk : Takes (cxOf (L2.CX P w) P w K mg base N_by_size "by_size" (defScope s_by_size) (He.ga K "by_size") cdv A outer s0 H0 E) (WofE E) := takes_of rfl rfl rfl rfl
  have po : PassesOwn (model P w) (cxOf (L2.CX P w) P w K mg base N_by_size "by_size" (defScope s_by_size) (He.ga K "by_size") cdv A outer s0 H0 E).A (cxOf (L2.CX P w) P w K mg base N_by_size "by_size" (defScope s_by_size) (He.ga K "by_size") cdv A outer s0 H0 E).env (cxOf (L2.CX P w) P w K mg base N_by_size "by_size" (defScope s_by_size) (He.ga K "by_size") cdv A outer s0 H0 E).xe := passes_of (X := (cxOf (L2.CX P w) P w K mg base N_by_size "by_size" (defScope s_by_size) (He.ga K "by_size") cdv A outer s0 H0 E)) rfl
  have hu := hr.units
  exact (s_cons (s_if (q_cmp (o_eq hu) (e_var (pv 0)) e_str (nomark _)) (s_one (s_ret (e_ix (e_lst (a_cons e_str (a_cons e_str a_nil))) (e_callTy c_int rfl Z.b_int bt_int (a_cons (e_var (pv 1)) a_nil))))) s_nil)
    (s_cons (s_if (q_cmp (o_eq hu) (e_var (pv 0)) e_str (nomark _)) (s_one (s_ret (e_ix (e_lst (a_cons e_str (a_cons e_str a_nil))) (e_callTy c_int rfl Z.b_int bt_int (a_cons (e_var (pv 1)) a_nil))))) s_nil)
    (s_one (s_ret (e_var (pv 0))))))
theorem sc_fitted : FnScope N_fitted ["whole", "power", "below", "manner"] (defScope s_fitted) := ⟨rfl, rfl, rfl, by decide +kernel, rfl, by decide +kernel, by decide +kernel⟩
theorem ok_fitted (Z : Top w K mg) : OkD P w K mg base T 3 "fitted" 4 d_fitted := by
  obtain ⟨fd, Fd⟩ := Z.f_fitted
  refine ⟨⟨fd, ["whole", "power", "below", "manner"], fn_ok Fd sc_fitted rfl fun cdv A outer s0 H0 E F0 hr => ?_, Fd.bindsN (ps := ["whole", "power", "below", "manner"]) (fun _ _ _ _ _ _ us hl => match us, hl with | [_, _, _, _], _ => rfl)⟩, Fd.kp, Z.m_fitted⟩
  have tk : Takes (cxOf (L2.CX P w) P w K mg base N_fitted "fitted" (defScope s_fitted) (He.ga K "fitted") cdv A outer s0 H0 E) (WofE E) := takes_of rfl rfl rfl rfl
  have po : PassesOwn (model P w) (cxOf (L2.CX P w) P w K mg base N_fitted "fitted" (defScope s_fitted) (He.ga K "fitted") cdv A outer s0 H0 E).A (cxOf (L2.CX P w) P w K mg base N_fitted "fitted" (defScope s_fitted) (He.ga K "fitted") cdv A outer s0 H0 E).env (cxOf (L2.CX P w) P w K mg base N_fitted "fitted" (defScope s_fitted) (He.ga K "fitted") cdv A outer s0 H0 E).xe := passes_of (X := (cxOf (L2.CX P w) P w K mg base N_fitted "fitted" (defScope s_fitted) (He.ga K "fitted") cdv A outer s0 H0 E)) rfl
  have hu := hr.units
  exact (s_cons (s_if (q_cmp (o_eq hu) (e_var (pv 0)) e_int (nomark _)) (s_one (s_ret (e_tup (a_cons e_int (a_cons e_int a_nil))))) s_nil)
    (s_cons (s_while 100000 po (q_cmp (o_eq hu) (e_bin o_mod (e_var (pv 0)) e_int) e_int (nomark _)) (s_cons (s_asg (e_bin o_div (e_var (pv 0)) e_int) (g_name (pg_name (i := 0) sc_fitted.nd rfl (Or.inl rfl))))
    (s_one (s_asg (e_bin o_add (e_var (pv 1)) e_int) (g_name (pg_name (i := 1) sc_fitted.nd rfl (Or.inl rfl)))))))
    (s_cons (s_asg (e_bin o_sub e_int (e_bin o_mul e_int (e_callTy c_int rfl Z.b_int bt_int (a_cons (e_var (pv 2)) a_nil)))) (g_name (pg_name (i := 4) sc_fitted.nd rfl (Or.inl rfl))))
    (s_cons (s_if (q_cmp o_gt (e_call (ok_height Z) hr tk rfl (a_cons (e_tup (a_cons (e_var (pv 0)) (a_cons (e_var (pv 1)) a_nil))) a_nil)) (e_gint Z.c_HIGHEST rfl) (nomark _)) (s_one (s_raise Z.e_TooGreat rfl tk rfl)) s_nil)
    (s_cons (s_if (q_cmp o_lt (e_call (ok_height Z) hr tk rfl (a_cons (e_tup (a_cons (e_var (pv 0)) (a_cons (e_var (pv 1)) a_nil))) a_nil)) (e_una u_neg (e_gint Z.c_HIGHEST rfl)) (nomark _)) (s_cons (s_if (q_cmp (o_eq hu) (e_var (pv 3)) e_str (nomark _)) (s_one (s_ret (e_tup (a_cons (e_var (pv 4)) (a_cons (e_una u_neg (e_gint Z.c_HIGHEST rfl)) a_nil))))) s_nil)
    (s_one (s_ret (e_tup (a_cons e_int (a_cons e_int a_nil)))))) s_nil)
    (s_one (s_ret (e_tup (a_cons (e_bin o_mul (e_var (pv 4)) (e_var (pv 0))) (a_cons (e_var (pv 1)) a_nil))))))))))
theorem sc_power_for : FnScope N_power_for ["upper", "lower"] (defScope s_power_for) := ⟨rfl, rfl, rfl, by decide +kernel, rfl, by decide +kernel, by decide +kernel⟩
theorem ok_power_for (Z : Top w K mg) : OkD P w K mg base T 2 "power_for" 2 d_power_for := by
  obtain ⟨fd, Fd⟩ := Z.f_power_for
  refine ⟨⟨fd, ["upper", "lower"], fn_ok Fd sc_power_for rfl fun cdv A outer s0 H0 E F0 hr => ?_, Fd.bindsN (ps := ["upper", "lower"]) (fun _ _ _ _ _ _ us hl => match us, hl with | [_, _], _ => rfl)⟩, Fd.kp, Z.m_power_for⟩
  have tk : Takes (cxOf (L2.CX P w) P w K mg base N_power_for "power_for" (defScope s_power_for) (He.ga K "power_for") cdv A outer s0 H0 E) (WofE E) := takes_of rfl rfl rfl rfl
  have po : PassesOwn (model P w) (cxOf (L2.CX P w) P w K mg base N_power_for "power_for" (defScope s_power_for) (He.ga K "power_for") cdv A outer s0 H0 E).A (cxOf (L2.CX P w) P w K mg base N_power_for "power_for" (defScope s_power_for) (He.ga K "power_for") cdv A outer s0 H0 E).env (cxOf (L2.CX P w) P w K mg base N_power_for "power_for" (defScope s_power_for) (He.ga K "power_for") cdv A outer s0 H0 E).xe := passes_of (X := (cxOf (L2.CX P w) P w K mg base N_power_for "power_for" (defScope s_power_for) (He.ga K "power_for") cdv A outer s0 H0 E)) rfl
  have hu := hr.units
  exact (s_cons (s_asg (e_bin o_sub (e_bin o_sub (e_call (ok_figures_of Z) hr tk rfl (a_cons (e_var (pv 0)) a_nil)) (e_call (ok_figures_of Z) hr tk rfl (a_cons (e_var (pv 1)) a_nil))) (e_gint Z.c_MOST rfl)) (g_name (pg_name (i := 2) sc_power_for.nd rfl (Or.inl rfl))))
    (s_cons (s_while 100000 po (q_cmp o_ge (e_bin o_mul (e_var (pv 0)) (e_call (ok_ten Z) hr tk rfl (a_cons (e_callB (c_max rfl) rfl Z.b_max bt_max (a_cons (e_una u_neg (e_var (pv 2))) (a_cons e_int a_nil))) a_nil))) (e_bin o_mul (e_bin o_mul (e_var (pv 1)) (e_call (ok_ten Z) hr tk rfl (a_cons (e_callB (c_max rfl) rfl Z.b_max bt_max (a_cons (e_var (pv 2)) (a_cons e_int a_nil))) a_nil))) (e_call (ok_ten Z) hr tk rfl (a_cons (e_gint Z.c_MOST rfl) a_nil))) (nomark _)) (s_one (s_asg (e_bin o_add (e_var (pv 2)) e_int) (g_name (pg_name (i := 2) sc_power_for.nd rfl (Or.inl rfl))))))
    (s_one (s_ret (e_var (pv 2))))))
theorem sc_exact : FnScope N_exact ["upper", "lower", "manner"] (defScope s_exact) := ⟨rfl, rfl, rfl, by decide +kernel, rfl, by decide +kernel, by decide +kernel⟩
theorem ok_exact (Z : Top w K mg) : OkD P w K mg base T 4 "exact" 3 d_exact := by
  obtain ⟨fd, Fd⟩ := Z.f_exact
  refine ⟨⟨fd, ["upper", "lower", "manner"], fn_ok Fd sc_exact rfl fun cdv A outer s0 H0 E F0 hr => ?_, Fd.bindsN (ps := ["upper", "lower", "manner"]) (fun _ _ _ _ _ _ us hl => match us, hl with | [_, _, _], _ => rfl)⟩, Fd.kp, Z.m_exact⟩
  have tk : Takes (cxOf (L2.CX P w) P w K mg base N_exact "exact" (defScope s_exact) (He.ga K "exact") cdv A outer s0 H0 E) (WofE E) := takes_of rfl rfl rfl rfl
  have po : PassesOwn (model P w) (cxOf (L2.CX P w) P w K mg base N_exact "exact" (defScope s_exact) (He.ga K "exact") cdv A outer s0 H0 E).A (cxOf (L2.CX P w) P w K mg base N_exact "exact" (defScope s_exact) (He.ga K "exact") cdv A outer s0 H0 E).env (cxOf (L2.CX P w) P w K mg base N_exact "exact" (defScope s_exact) (He.ga K "exact") cdv A outer s0 H0 E).xe := passes_of (X := (cxOf (L2.CX P w) P w K mg base N_exact "exact" (defScope s_exact) (He.ga K "exact") cdv A outer s0 H0 E)) rfl
  have hu := hr.units
  exact (s_cons (s_if (q_cmp (o_eq hu) (e_var (pv 0)) e_int (nomark _)) (s_one (s_ret (e_tup (a_cons e_int (a_cons e_int a_nil))))) s_nil)
    (s_cons (s_asg (e_cmp (o_ne hu) (e_cmp o_lt (e_var (pv 0)) e_int (nomark _)) (e_cmp o_lt (e_var (pv 1)) e_int (nomark _)) (nomark _)) (g_name (pg_name (i := 3) sc_exact.nd rfl (Or.inl rfl))))
    (s_cons (s_asg (e_callB c_abs rfl Z.b_abs bt_abs (a_cons (e_var (pv 0)) a_nil)) (g_name (pg_name (i := 0) sc_exact.nd rfl (Or.inl rfl))))
    (s_cons (s_asg (e_callB c_abs rfl Z.b_abs bt_abs (a_cons (e_var (pv 1)) a_nil)) (g_name (pg_name (i := 1) sc_exact.nd rfl (Or.inl rfl))))
    (s_cons (s_asg (e_call (ok_power_for Z) hr tk rfl (a_cons (e_var (pv 0)) (a_cons (e_var (pv 1)) a_nil))) (g_name (pg_name (i := 4) sc_exact.nd rfl (Or.inl rfl))))
    (s_cons (s_asg (e_bin o_mul (e_var (pv 0)) (e_call (ok_ten Z) hr tk rfl (a_cons (e_callB (c_max rfl) rfl Z.b_max bt_max (a_cons (e_una u_neg (e_var (pv 4))) (a_cons e_int a_nil))) a_nil))) (g_name (pg_name (i := 0) sc_exact.nd rfl (Or.inl rfl))))
    (s_cons (s_asg (e_bin o_mul (e_var (pv 1)) (e_call (ok_ten Z) hr tk rfl (a_cons (e_callB (c_max rfl) rfl Z.b_max bt_max (a_cons (e_var (pv 4)) (a_cons e_int a_nil))) a_nil))) (g_name (pg_name (i := 1) sc_exact.nd rfl (Or.inl rfl))))
    (s_cons (s_asg (e_call (ok_by_size Z) hr tk rfl (a_cons (e_var (pv 2)) (a_cons (e_var (pv 3)) a_nil))) (g_name (pg_name (i := 5) sc_exact.nd rfl (Or.inl rfl))))
    (s_one (s_ret (e_call (ok_fitted Z) hr tk rfl (a_cons (e_call (ok_taken Z) hr tk rfl (a_cons (e_bin o_div (e_var (pv 0)) (e_var (pv 1))) (a_cons (e_bin o_mod (e_var (pv 0)) (e_var (pv 1))) (a_cons (e_var (pv 1)) (a_cons (e_var (pv 5)) a_nil))))) (a_cons (e_var (pv 4)) (a_cons (e_var (pv 3)) (a_cons (e_var (pv 5)) a_nil)))))))))))))))
theorem sc__law_cell_at : FnScope N__law_cell_at ["script", "k"] (defScope s__law_cell_at) := ⟨rfl, rfl, rfl, by decide +kernel, rfl, by decide +kernel, by decide +kernel⟩
theorem ok__law_cell_at (Z : Top w K mg) : OkD P w K mg base T 1 "_law_cell_at" 2 d__law_cell_at := by
  obtain ⟨fd, Fd⟩ := Z.f__law_cell_at
  refine ⟨⟨fd, ["script", "k"], fn_ok Fd sc__law_cell_at rfl fun cdv A outer s0 H0 E F0 hr => ?_, Fd.bindsN (ps := ["script", "k"]) (fun _ _ _ _ _ _ us hl => match us, hl with | [_, _], _ => rfl)⟩, Fd.kp, Z.m__law_cell_at⟩
  have tk : Takes (cxOf (L2.CX P w) P w K mg base N__law_cell_at "_law_cell_at" (defScope s__law_cell_at) (He.ga K "_law_cell_at") cdv A outer s0 H0 E) (WofE E) := takes_of rfl rfl rfl rfl
  have po : PassesOwn (model P w) (cxOf (L2.CX P w) P w K mg base N__law_cell_at "_law_cell_at" (defScope s__law_cell_at) (He.ga K "_law_cell_at") cdv A outer s0 H0 E).A (cxOf (L2.CX P w) P w K mg base N__law_cell_at "_law_cell_at" (defScope s__law_cell_at) (He.ga K "_law_cell_at") cdv A outer s0 H0 E).env (cxOf (L2.CX P w) P w K mg base N__law_cell_at "_law_cell_at" (defScope s__law_cell_at) (He.ga K "_law_cell_at") cdv A outer s0 H0 E).xe := passes_of (X := (cxOf (L2.CX P w) P w K mg base N__law_cell_at "_law_cell_at" (defScope s__law_cell_at) (He.ga K "_law_cell_at") cdv A outer s0 H0 E)) rfl
  have hu := hr.units
  exact (s_cons (s_if (q_cmp o_lt (e_var (pv 1)) (e_callB c_len rfl Z.b_len bt_len (a_cons (e_var (pv 0)) a_nil)) (nomark _)) (s_one (s_ret (e_ix (e_var (pv 0)) (e_var (pv 1))))) s_nil)
    (s_one (s_ret e_int)))
theorem sc__law_mixed : FnScope N__law_mixed ["script", "k"] (defScope s__law_mixed) := ⟨rfl, rfl, rfl, by decide +kernel, rfl, by decide +kernel, by decide +kernel⟩
theorem ok__law_mixed (Z : Top w K mg) : OkD P w K mg base T 2 "_law_mixed" 2 d__law_mixed := by
  obtain ⟨fd, Fd⟩ := Z.f__law_mixed
  refine ⟨⟨fd, ["script", "k"], fn_ok Fd sc__law_mixed rfl fun cdv A outer s0 H0 E F0 hr => ?_, Fd.bindsN (ps := ["script", "k"]) (fun _ _ _ _ _ _ us hl => match us, hl with | [_, _], _ => rfl)⟩, Fd.kp, Z.m__law_mixed⟩
  have tk : Takes (cxOf (L2.CX P w) P w K mg base N__law_mixed "_law_mixed" (defScope s__law_mixed) (He.ga K "_law_mixed") cdv A outer s0 H0 E) (WofE E) := takes_of rfl rfl rfl rfl
  have po : PassesOwn (model P w) (cxOf (L2.CX P w) P w K mg base N__law_mixed "_law_mixed" (defScope s__law_mixed) (He.ga K "_law_mixed") cdv A outer s0 H0 E).A (cxOf (L2.CX P w) P w K mg base N__law_mixed "_law_mixed" (defScope s__law_mixed) (He.ga K "_law_mixed") cdv A outer s0 H0 E).env (cxOf (L2.CX P w) P w K mg base N__law_mixed "_law_mixed" (defScope s__law_mixed) (He.ga K "_law_mixed") cdv A outer s0 H0 E).xe := passes_of (X := (cxOf (L2.CX P w) P w K mg base N__law_mixed "_law_mixed" (defScope s__law_mixed) (He.ga K "_law_mixed") cdv A outer s0 H0 E)) rfl
  have hu := hr.units
  exact (s_cons (s_asg (e_bin o_mod (e_bin o_mul (e_bin o_add (e_bin o_add (e_call (ok__law_cell_at Z) hr tk rfl (a_cons (e_var (pv 0)) (a_cons (e_var (pv 1)) a_nil))) (e_bin o_mul e_int (e_var (pv 1)))) e_int) e_int) e_int) (g_name (pg_name (i := 2) sc__law_mixed.nd rfl (Or.inl rfl))))
    (s_one (s_ret (e_bin o_mod (e_bin o_add (e_bin o_add (e_bin o_mul (e_var (pv 2)) (e_var (pv 2))) (e_bin o_mul e_int (e_var (pv 2)))) (e_var (pv 1))) e_int))))
theorem sc__law_ten : FnScope N__law_ten ["power"] (defScope s__law_ten) := ⟨rfl, rfl, rfl, by decide +kernel, rfl, by decide +kernel, by decide +kernel⟩
theorem ok__law_ten (Z : Top w K mg) : OkD P w K mg base T 1 "_law_ten" 1 d__law_ten := by
  obtain ⟨fd, Fd⟩ := Z.f__law_ten
  refine ⟨⟨fd, ["power"], fn_ok Fd sc__law_ten rfl fun cdv A outer s0 H0 E F0 hr => ?_, Fd.bindsN (ps := ["power"]) (fun _ _ _ _ _ _ us hl => match us, hl with | [_], _ => rfl)⟩, Fd.kp, Z.m__law_ten⟩
  have tk : Takes (cxOf (L2.CX P w) P w K mg base N__law_ten "_law_ten" (defScope s__law_ten) (He.ga K "_law_ten") cdv A outer s0 H0 E) (WofE E) := takes_of rfl rfl rfl rfl
  have po : PassesOwn (model P w) (cxOf (L2.CX P w) P w K mg base N__law_ten "_law_ten" (defScope s__law_ten) (He.ga K "_law_ten") cdv A outer s0 H0 E).A (cxOf (L2.CX P w) P w K mg base N__law_ten "_law_ten" (defScope s__law_ten) (He.ga K "_law_ten") cdv A outer s0 H0 E).env (cxOf (L2.CX P w) P w K mg base N__law_ten "_law_ten" (defScope s__law_ten) (He.ga K "_law_ten") cdv A outer s0 H0 E).xe := passes_of (X := (cxOf (L2.CX P w) P w K mg base N__law_ten "_law_ten" (defScope s__law_ten) (He.ga K "_law_ten") cdv A outer s0 H0 E)) rfl
  have hu := hr.units
  exact (s_cons (s_asg e_int (g_name (pg_name (i := 1) sc__law_ten.nd rfl (Or.inl rfl))))
    (s_cons (s_for po rfl (i_rng1 rfl Z.b_range (a_cons (e_var (pv 0)) a_nil)) (g_name (pg_name (i := 2) sc__law_ten.nd rfl (Or.inl rfl))) (s_one (s_asg (e_bin o_mul (e_var (pv 1)) e_int) (g_name (pg_name (i := 1) sc__law_ten.nd rfl (Or.inl rfl))))))
    (s_one (s_ret (e_var (pv 1))))))
theorem sc__law_height : FnScope N__law_height ["number"] (defScope s__law_height) := ⟨rfl, rfl, rfl, by decide +kernel, rfl, by decide +kernel, by decide +kernel⟩
theorem ok__law_height (Z : Top w K mg) : OkD P w K mg base T 1 "_law_height" 1 d__law_height := by
  obtain ⟨fd, Fd⟩ := Z.f__law_height
  refine ⟨⟨fd, ["number"], fn_ok Fd sc__law_height rfl fun cdv A outer s0 H0 E F0 hr => ?_, Fd.bindsN (ps := ["number"]) (fun _ _ _ _ _ _ us hl => match us, hl with | [_], _ => rfl)⟩, Fd.kp, Z.m__law_height⟩
  have tk : Takes (cxOf (L2.CX P w) P w K mg base N__law_height "_law_height" (defScope s__law_height) (He.ga K "_law_height") cdv A outer s0 H0 E) (WofE E) := takes_of rfl rfl rfl rfl
  have po : PassesOwn (model P w) (cxOf (L2.CX P w) P w K mg base N__law_height "_law_height" (defScope s__law_height) (He.ga K "_law_height") cdv A outer s0 H0 E).A (cxOf (L2.CX P w) P w K mg base N__law_height "_law_height" (defScope s__law_height) (He.ga K "_law_height") cdv A outer s0 H0 E).env (cxOf (L2.CX P w) P w K mg base N__law_height "_law_height" (defScope s__law_height) (He.ga K "_law_height") cdv A outer s0 H0 E).xe := passes_of (X := (cxOf (L2.CX P w) P w K mg base N__law_height "_law_height" (defScope s__law_height) (He.ga K "_law_height") cdv A outer s0 H0 E)) rfl
  have hu := hr.units
  exact (s_one (s_ret (e_bin o_sub (e_bin o_add (e_ix (e_var (pv 0)) e_int) (e_callB c_len rfl Z.b_len bt_len (a_cons (e_callTy c_str rfl Z.b_str bt_str (a_cons (e_callB c_abs rfl Z.b_abs bt_abs (a_cons (e_ix (e_var (pv 0)) e_int) a_nil)) a_nil)) a_nil))) e_int)))
theorem sc__law_is_number : FnScope N__law_is_number ["thing"] (defScope s__law_is_number) := ⟨rfl, rfl, rfl, by decide +kernel, rfl, by decide +kernel, by decide +kernel⟩
theorem ok__law_is_number (Z : Top w K mg) : OkD P w K mg base T 2 "_law_is_number" 1 d__law_is_number := by
  obtain ⟨fd, Fd⟩ := Z.f__law_is_number
  refine ⟨⟨fd, ["thing"], fn_ok Fd sc__law_is_number rfl fun cdv A outer s0 H0 E F0 hr => ?_, Fd.bindsN (ps := ["thing"]) (fun _ _ _ _ _ _ us hl => match us, hl with | [_], _ => rfl)⟩, Fd.kp, Z.m__law_is_number⟩
  have tk : Takes (cxOf (L2.CX P w) P w K mg base N__law_is_number "_law_is_number" (defScope s__law_is_number) (He.ga K "_law_is_number") cdv A outer s0 H0 E) (WofE E) := takes_of rfl rfl rfl rfl
  have po : PassesOwn (model P w) (cxOf (L2.CX P w) P w K mg base N__law_is_number "_law_is_number" (defScope s__law_is_number) (He.ga K "_law_is_number") cdv A outer s0 H0 E).A (cxOf (L2.CX P w) P w K mg base N__law_is_number "_law_is_number" (defScope s__law_is_number) (He.ga K "_law_is_number") cdv A outer s0 H0 E).env (cxOf (L2.CX P w) P w K mg base N__law_is_number "_law_is_number" (defScope s__law_is_number) (He.ga K "_law_is_number") cdv A outer s0 H0 E).xe := passes_of (X := (cxOf (L2.CX P w) P w K mg base N__law_is_number "_law_is_number" (defScope s__law_is_number) (He.ga K "_law_is_number") cdv A outer s0 H0 E)) rfl
  have hu := hr.units
  exact (s_cons (s_if (q_w (w_or (q_not (q_val (e_callB c_isi rfl Z.b_isinstance bt_isinstance (a_cons (e_var (pv 0)) (a_cons (e_ty Z.b_tuple bt_tuple rfl) a_nil))))) (w_or1 (q_cmp (o_ne hu) (e_callB c_len rfl Z.b_len bt_len (a_cons (e_var (pv 0)) a_nil)) e_int (nomark _))))) (s_one (s_ret e_bl)) s_nil)
    (s_cons (s_for po rfl (i_any (e_var (pv 0))) (g_name (pg_name (i := 1) sc__law_is_number.nd rfl (Or.inl rfl))) (s_one (s_if (q_w (w_or (q_not (q_val (e_callB c_isi rfl Z.b_isinstance bt_isinstance (a_cons (e_var (pv 1)) (a_cons (e_ty Z.b_int bt_int rfl) a_nil))))) (w_or1 (q_val (e_callB c_isi rfl Z.b_isinstance bt_isinstance (a_cons (e_var (pv 1)) (a_cons (e_ty Z.b_bool bt_bool rfl) a_nil))))))) (s_one (s_ret e_bl)) s_nil)))
    (s_cons (s_if (q_cmp (o_eq hu) (e_ix (e_var (pv 0)) e_int) e_int (nomark _)) (s_one (s_ret (e_cmp (o_eq hu) (e_ix (e_var (pv 0)) e_int) e_int (nomark _)))) s_nil)
    (s_one (s_ret (e_and (e_cmp o_lt (e_callB c_abs rfl Z.b_abs bt_abs (a_cons (e_ix (e_var (pv 0)) e_int) a_nil)) e_int (nomark _)) (e_and (e_cmp (o_ne hu) (e_bin o_mod (e_ix (e_var (pv 0)) e_int) e_int) e_int (nomark _)) (e_one (e_chn o_le o_le (e_una u_neg e_int) (e_call (ok__law_height Z) hr tk rfl (a_cons (e_var (pv 0)) a_nil)) e_int)))))))))
theorem sc__law_fraction : FnScope N__law_fraction ["script", "k"] (defScope s__law_fraction) := ⟨rfl, rfl, rfl, by decide +kernel, rfl, by decide +kernel, by decide +kernel⟩
theorem ok__law_fraction (Z : Top w K mg) : OkD P w K mg base T 3 "_law_fraction" 2 d__law_fraction := by
  obtain ⟨fd, Fd⟩ := Z.f__law_fraction
  refine ⟨⟨fd, ["script", "k"], fn_ok Fd sc__law_fraction rfl fun cdv A outer s0 H0 E F0 hr => ?_, Fd.bindsN (ps := ["script", "k"]) (fun _ _ _ _ _ _ us hl => match us, hl with | [_, _], _ => rfl)⟩, Fd.kp, Z.m__law_fraction⟩
  have tk : Takes (cxOf (L2.CX P w) P w K mg base N__law_fraction "_law_fraction" (defScope s__law_fraction) (He.ga K "_law_fraction") cdv A outer s0 H0 E) (WofE E) := takes_of rfl rfl rfl rfl
  have po : PassesOwn (model P w) (cxOf (L2.CX P w) P w K mg base N__law_fraction "_law_fraction" (defScope s__law_fraction) (He.ga K "_law_fraction") cdv A outer s0 H0 E).A (cxOf (L2.CX P w) P w K mg base N__law_fraction "_law_fraction" (defScope s__law_fraction) (He.ga K "_law_fraction") cdv A outer s0 H0 E).env (cxOf (L2.CX P w) P w K mg base N__law_fraction "_law_fraction" (defScope s__law_fraction) (He.ga K "_law_fraction") cdv A outer s0 H0 E).xe := passes_of (X := (cxOf (L2.CX P w) P w K mg base N__law_fraction "_law_fraction" (defScope s__law_fraction) (He.ga K "_law_fraction") cdv A outer s0 H0 E)) rfl
  have hu := hr.units
  exact (s_cons (s_asg (e_call (ok__law_mixed Z) hr tk rfl (a_cons (e_var (pv 0)) (a_cons (e_var (pv 1)) a_nil))) (g_name (pg_name (i := 2) sc__law_fraction.nd rfl (Or.inl rfl))))
    (s_cons (s_asg (e_bin o_sub (e_bin o_mod (e_call (ok__law_mixed Z) hr tk rfl (a_cons (e_var (pv 0)) (a_cons (e_bin o_add (e_var (pv 1)) e_int) a_nil))) (e_ix (e_tup (a_cons e_int (a_cons e_int (a_cons e_int (a_cons e_int a_nil))))) (e_bin o_mod (e_var (pv 2)) e_int))) (e_bin o_mod (e_bin o_div (e_var (pv 2)) e_int) e_int)) (g_name (pg_name (i := 3) sc__law_fraction.nd rfl (Or.inl rfl))))
    (s_cons (s_asg (e_ix (e_tup (a_cons e_int (a_cons e_int (a_cons e_int (a_cons e_int (a_cons e_int (a_cons e_int (a_cons e_int (a_cons (e_bin o_add e_int (e_bin o_mod (e_call (ok__law_mixed Z) hr tk rfl (a_cons (e_var (pv 0)) (a_cons (e_bin o_add (e_var (pv 1)) e_int) a_nil))) e_int)) a_nil))))))))) (e_bin o_mod (e_bin o_div (e_var (pv 2)) e_int) e_int)) (g_name (pg_name (i := 4) sc__law_fraction.nd rfl (Or.inl rfl))))
    (s_cons (s_if (q_cmp (o_eq hu) (e_bin o_mod (e_bin o_div (e_var (pv 2)) e_int) e_int) e_int (nomark _)) (s_cons (s_asg (e_bin o_add (e_bin o_mul (e_var (pv 3)) e_int) (e_call (ok__law_mixed Z) hr tk rfl (a_cons (e_var (pv 0)) (a_cons (e_bin o_add (e_var (pv 1)) e_int) a_nil)))) (g_name (pg_name (i := 3) sc__law_fraction.nd rfl (Or.inl rfl))))
    (s_one (s_asg (e_bin o_mul (e_var (pv 4)) (e_ix (e_tup (a_cons e_int (a_cons e_int (a_cons e_int a_nil)))) (e_bin o_mod (e_bin o_div (e_var (pv 2)) e_int) e_int))) (g_name (pg_name (i := 4) sc__law_fraction.nd rfl (Or.inl rfl)))))) s_nil)
    (s_cons (s_if (q_cmp (o_eq hu) (e_bin o_mod (e_bin o_div (e_var (pv 2)) e_int) e_int) e_int (nomark _)) (s_cons (s_asg (e_bin o_mul (e_var (pv 3)) (e_call (ok__law_ten Z) hr tk rfl (a_cons (e_bin o_mod (e_bin o_div (e_var (pv 2)) e_int) e_int) a_nil))) (g_name (pg_name (i := 3) sc__law_fraction.nd rfl (Or.inl rfl))))
    (s_one (s_asg (e_bin o_mul (e_var (pv 4)) (e_call (ok__law_ten Z) hr tk rfl (a_cons (e_bin o_mod (e_bin o_div (e_var (pv 2)) e_int) e_int) a_nil))) (g_name (pg_name (i := 4) sc__law_fraction.nd rfl (Or.inl rfl)))))) s_nil)
    (s_cons (s_if (q_cmp (o_eq hu) (e_bin o_mod (e_bin o_div (e_var (pv 2)) e_int) e_int) e_int (nomark _)) (s_cons (s_asg (e_bin o_add (e_bin o_mul e_int (e_var (pv 3))) e_int) (g_name (pg_name (i := 3) sc__law_fraction.nd rfl (Or.inl rfl))))
    (s_one (s_asg (e_bin o_mul (e_var (pv 4)) (e_ix (e_tup (a_cons e_int (a_cons e_int (a_cons e_int (a_cons e_int a_nil))))) (e_bin o_mod (e_bin o_div (e_var (pv 2)) e_int) e_int))) (g_name (pg_name (i := 4) sc__law_fraction.nd rfl (Or.inl rfl)))))) s_nil)
    (s_one (s_ret (e_tup (a_cons (e_var (pv 3)) (a_cons (e_bin o_mul (e_var (pv 4)) (e_bin o_sub e_int (e_bin o_mul e_int (e_bin o_mod (e_bin o_div (e_var (pv 2)) e_int) e_int)))) a_nil)))))))))))
theorem sc__law_side : FnScope N__law_side ["number", "upper", "lower"] (defScope s__law_side) := ⟨rfl, rfl, rfl, by decide +kernel, rfl, by decide +kernel, by decide +kernel⟩
theorem ok__law_side (Z : Top w K mg) : OkD P w K mg base T 2 "_law_side" 3 d__law_side := by
  obtain ⟨fd, Fd⟩ := Z.f__law_side
  refine ⟨⟨fd, ["number", "upper", "lower"], fn_ok Fd sc__law_side rfl fun cdv A outer s0 H0 E F0 hr => ?_, Fd.bindsN (ps := ["number", "upper", "lower"]) (fun _ _ _ _ _ _ us hl => match us, hl with | [_, _, _], _ => rfl)⟩, Fd.kp, Z.m__law_side⟩
  have tk : Takes (cxOf (L2.CX P w) P w K mg base N__law_side "_law_side" (defScope s__law_side) (He.ga K "_law_side") cdv A outer s0 H0 E) (WofE E) := takes_of rfl rfl rfl rfl
  have po : PassesOwn (model P w) (cxOf (L2.CX P w) P w K mg base N__law_side "_law_side" (defScope s__law_side) (He.ga K "_law_side") cdv A outer s0 H0 E).A (cxOf (L2.CX P w) P w K mg base N__law_side "_law_side" (defScope s__law_side) (He.ga K "_law_side") cdv A outer s0 H0 E).env (cxOf (L2.CX P w) P w K mg base N__law_side "_law_side" (defScope s__law_side) (He.ga K "_law_side") cdv A outer s0 H0 E).xe := passes_of (X := (cxOf (L2.CX P w) P w K mg base N__law_side "_law_side" (defScope s__law_side) (He.ga K "_law_side") cdv A outer s0 H0 E)) rfl
  have hu := hr.units
  exact (s_cons (s_asg (e_bin o_mul (e_bin o_mul (e_ix (e_var (pv 0)) e_int) (e_var (pv 2))) (e_call (ok__law_ten Z) hr tk rfl (a_cons (e_callB (c_max rfl) rfl Z.b_max bt_max (a_cons (e_ix (e_var (pv 0)) e_int) (a_cons e_int a_nil))) a_nil))) (g_name (pg_name (i := 3) sc__law_side.nd rfl (Or.inl rfl))))
    (s_cons (s_asg (e_bin o_mul (e_var (pv 1)) (e_call (ok__law_ten Z) hr tk rfl (a_cons (e_callB (c_max rfl) rfl Z.b_max bt_max (a_cons (e_una u_neg (e_ix (e_var (pv 0)) e_int)) (a_cons e_int a_nil))) a_nil))) (g_name (pg_name (i := 4) sc__law_side.nd rfl (Or.inl rfl))))
    (s_one (s_ret (e_bin o_sub (e_callTy c_int rfl Z.b_int bt_int (a_cons (e_cmp o_gt (e_var (pv 3)) (e_var (pv 4)) (nomark _)) a_nil)) (e_callTy c_int rfl Z.b_int bt_int (a_cons (e_cmp o_lt (e_var (pv 3)) (e_var (pv 4)) (nomark _)) a_nil)))))))
theorem sc__law_far : FnScope N__law_far ["number", "upper", "lower"] (defScope s__law_far) := ⟨rfl, rfl, rfl, by decide +kernel, rfl, by decide +kernel, by decide +kernel⟩
theorem ok__law_far (Z : Top w K mg) : OkD P w K mg base T 2 "_law_far" 3 d__law_far := by
  obtain ⟨fd, Fd⟩ := Z.f__law_far
  refine ⟨⟨fd, ["number", "upper", "lower"], fn_ok Fd sc__law_far rfl fun cdv A outer s0 H0 E F0 hr => ?_, Fd.bindsN (ps := ["number", "upper", "lower"]) (fun _ _ _ _ _ _ us hl => match us, hl with | [_, _, _], _ => rfl)⟩, Fd.kp, Z.m__law_far⟩
  have tk : Takes (cxOf (L2.CX P w) P w K mg base N__law_far "_law_far" (defScope s__law_far) (He.ga K "_law_far") cdv A outer s0 H0 E) (WofE E) := takes_of rfl rfl rfl rfl
  have po : PassesOwn (model P w) (cxOf (L2.CX P w) P w K mg base N__law_far "_law_far" (defScope s__law_far) (He.ga K "_law_far") cdv A outer s0 H0 E).A (cxOf (L2.CX P w) P w K mg base N__law_far "_law_far" (defScope s__law_far) (He.ga K "_law_far") cdv A outer s0 H0 E).env (cxOf (L2.CX P w) P w K mg base N__law_far "_law_far" (defScope s__law_far) (He.ga K "_law_far") cdv A outer s0 H0 E).xe := passes_of (X := (cxOf (L2.CX P w) P w K mg base N__law_far "_law_far" (defScope s__law_far) (He.ga K "_law_far") cdv A outer s0 H0 E)) rfl
  have hu := hr.units
  exact (s_cons (s_asg (e_call (ok__law_ten Z) hr tk rfl (a_cons (e_callB (c_max rfl) rfl Z.b_max bt_max (a_cons (e_una u_neg (e_ix (e_var (pv 0)) e_int)) (a_cons e_int a_nil))) a_nil)) (g_name (pg_name (i := 3) sc__law_far.nd rfl (Or.inl rfl))))
    (s_one (s_ret (e_tup (a_cons (e_callB c_abs rfl Z.b_abs bt_abs (a_cons (e_bin o_sub (e_bin o_mul (e_bin o_mul (e_ix (e_var (pv 0)) e_int) (e_var (pv 2))) (e_call (ok__law_ten Z) hr tk rfl (a_cons (e_callB (c_max rfl) rfl Z.b_max bt_max (a_cons (e_ix (e_var (pv 0)) e_int) (a_cons e_int a_nil))) a_nil))) (e_bin o_mul (e_var (pv 1)) (e_var (pv 3)))) a_nil)) (a_cons (e_bin o_mul (e_var (pv 2)) (e_var (pv 3))) a_nil))))))
theorem sc__law_is_farther : FnScope N__law_is_farther ["one", "other", "upper", "lower"] (defScope s__law_is_farther) := ⟨rfl, rfl, rfl, by decide +kernel, rfl, by decide +kernel, by decide +kernel⟩
theorem ok__law_is_farther (Z : Top w K mg) : OkD P w K mg base T 3 "_law_is_farther" 4 d__law_is_farther := by
  obtain ⟨fd, Fd⟩ := Z.f__law_is_farther
  refine ⟨⟨fd, ["one", "other", "upper", "lower"], fn_ok Fd sc__law_is_farther rfl fun cdv A outer s0 H0 E F0 hr => ?_, Fd.bindsN (ps := ["one", "other", "upper", "lower"]) (fun _ _ _ _ _ _ us hl => match us, hl with | [_, _, _, _], _ => rfl)⟩, Fd.kp, Z.m__law_is_farther⟩
  have tk : Takes (cxOf (L2.CX P w) P w K mg base N__law_is_farther "_law_is_farther" (defScope s__law_is_farther) (He.ga K "_law_is_farther") cdv A outer s0 H0 E) (WofE E) := takes_of rfl rfl rfl rfl
  have po : PassesOwn (model P w) (cxOf (L2.CX P w) P w K mg base N__law_is_farther "_law_is_farther" (defScope s__law_is_farther) (He.ga K "_law_is_farther") cdv A outer s0 H0 E).A (cxOf (L2.CX P w) P w K mg base N__law_is_farther "_law_is_farther" (defScope s__law_is_farther) (He.ga K "_law_is_farther") cdv A outer s0 H0 E).env (cxOf (L2.CX P w) P w K mg base N__law_is_farther "_law_is_farther" (defScope s__law_is_farther) (He.ga K "_law_is_farther") cdv A outer s0 H0 E).xe := passes_of (X := (cxOf (L2.CX P w) P w K mg base N__law_is_farther "_law_is_farther" (defScope s__law_is_farther) (He.ga K "_law_is_farther") cdv A outer s0 H0 E)) rfl
  have hu := hr.units
  exact (s_cons (s_asg (e_call (ok__law_far Z) hr tk rfl (a_cons (e_var (pv 0)) (a_cons (e_var (pv 2)) (a_cons (e_var (pv 3)) a_nil)))) (g_name (pg_name (i := 4) sc__law_is_farther.nd rfl (Or.inl rfl))))
    (s_cons (s_asg (e_call (ok__law_far Z) hr tk rfl (a_cons (e_var (pv 1)) (a_cons (e_var (pv 2)) (a_cons (e_var (pv 3)) a_nil)))) (g_name (pg_name (i := 5) sc__law_is_farther.nd rfl (Or.inl rfl))))
    (s_one (s_ret (e_cmp o_gt (e_bin o_mul (e_ix (e_var (pv 4)) e_int) (e_ix (e_var (pv 5)) e_int)) (e_bin o_mul (e_ix (e_var (pv 5)) e_int) (e_ix (e_var (pv 4)) e_int)) (nomark _))))))
def N_law : List Str := ["script", "upper", "lower", "some", "manner", "opposites", "one", "other", "low", "high", "near", "even", "away", "between"]
def e1_law : Rho → Res D :=
  (toldD (callD 3 d_exact (acons (var 1) (acons (var 2) (acons (var 4) anil)))))
def e2_law : Rho → Res D :=
  (toldD (callD 3 d_exact (acons (una negD (var 1)) (acons (var 2) (acons (var 4) anil)))))
def b3_law : Rho → SR :=
  (sseq (sif (orQ (tst (bop neD (bop ixD (var 6) (con (.int 0))) (bop ixD (var 7) (con (.int 0))))) (andQ (tst (bop eqD (bop ixD (var 6) (con (.int 0))) (con (.str "refused")))) (tst (bop neD (var 6) (mkT (acons (con (.str "refused")) (acons (con (.int 0)) anil))))))) (sret (con (.bl false))) sskip)
    (sif (andQ (tst (bop eqD (bop ixD (var 6) (con (.int 0))) (con (.str "told")))) (orQ (notQ (tst (callD 1 d__law_is_number (acons (bop ixD (var 6) (con (.int 1))) anil)))) (tst (bop neD (bop ixD (var 7) (con (.int 1))) (mkT (acons (una negD (bop ixD (bop ixD (var 6) (con (.int 1))) (con (.int 0)))) (acons (bop ixD (bop ixD (var 6) (con (.int 1))) (con (.int 1))) anil))))))) (sret (con (.bl false))) sskip))
def e4_law : Rho → Res D :=
  (bop ixD (var 6) (con (.int 0)))
def e5_law : Rho → Res D :=
  (bop ixD (var 6) (con (.int 1)))
def b6_law : Rho → SR :=
  (sseq (sif (tst (bop niD (var 6) (mkT (acons (var 8) (acons (var 9) anil))))) (sret (con (.bl false))) sskip)
    (sseq (sif (andQ (tst (bop neD (bop ixD (var 6) (con (.int 0))) (con (.int 0)))) (tst (callD 4 d__law_is_farther (acons (var 6) (acons (var 8) (acons (var 1) (acons (var 2) anil))))))) (sret (con (.bl false))) sskip)
    (sif (andQ (tst (bop neD (bop ixD (var 6) (con (.int 0))) (con (.int 0)))) (tst (callD 4 d__law_is_farther (acons (var 6) (acons (var 9) (acons (var 1) (acons (var 2) anil))))))) (sret (con (.bl false))) sskip)))
def t12_law : Rho → SR :=
  (sret (bop inD (var 13) (mkT (acons (var 8) (acons (var 9) anil)))))
def t11_law : Rho → SR :=
  sseq (sasg (callD 3 d_exact (acons (bop addD (bop mulD (bop ixD (var 8) (con (.int 0))) (callD 1 d__law_ten (acons (bop addD (bop ixD (var 8) (con (.int 1))) (con (.int 50))) anil))) (bop mulD (bop ixD (var 9) (con (.int 0))) (callD 1 d__law_ten (acons (bop addD (bop ixD (var 9) (con (.int 1))) (con (.int 50))) anil)))) (acons (bop mulD (con (.int 2)) (callD 1 d__law_ten (acons (con (.int 50)) anil))) (acons (con (.str "even")) anil)))) (gn 13)) (t12_law)
def t10_law : Rho → SR :=
  sseq (sif (tst (bop niD (var 10) (mkT (acons (var 8) (acons (var 9) anil))))) (sret (con (.bl false))) sskip) (t11_law)
def t9_law : Rho → SR :=
  sseq (sfor (its (mkT (acons (var 11) (acons (var 12) anil)))) (gn 6) b6_law) (t10_law)
def t8_law : Rho → SR :=
  sseq (sif (tst (bop gtD (bop mulD (callD 3 d__law_side (acons (var 10) (acons (var 1) (acons (var 2) anil)))) (bop subD (con (.int 1)) (bop mulD (con (.int 2)) (cal intD (acons (bop ltD (var 1) (con (.int 0))) anil))))) (con (.int 0)))) (sret (con (.bl false))) sskip) (t9_law)
def t7_law : Rho → SR :=
  sseq (sif (orQ (tst (bop gtD (callD 3 d__law_side (acons (var 8) (acons (var 1) (acons (var 2) anil)))) (con (.int 0)))) (tst (bop ltD (callD 3 d__law_side (acons (var 9) (acons (var 1) (acons (var 2) anil)))) (con (.int 0))))) (sret (con (.bl false))) sskip) (t8_law)
def t6_law : Rho → SR :=
  sseq (sasg (lcD (its (var 3)) 6 yes e5_law) (gt 5 (gsc (gn 8) (gsc (gn 9) (gsc (gn 10) (gsc (gn 11) (gsc (gn 12) gsn))))))) (t7_law)
def t5_law : Rho → SR :=
  sseq (sif (tst (bop inD (con (.str "refused")) (lcD (its (var 3)) 6 yes e4_law))) (sret (con (.bl true))) sskip) (t6_law)
def t4_law : Rho → SR :=
  sseq (sfor (zipI (acons (var 3) (acons (var 5) anil))) (gt 2 (gsc (gn 6) (gsc (gn 7) gsn))) b3_law) (t5_law)
def t3_law : Rho → SR :=
  sseq (sasg (lcD (its (mkT (acons (con (.str "up")) (acons (con (.str "down")) (acons (con (.str "nought")) (acons (con (.str "even")) (acons (con (.str "away")) anil))))))) 4 yes e2_law) (gn 5)) (t4_law)
def t2_law : Rho → SR :=
  sseq (sasg (lcD (its (mkT (acons (con (.str "down")) (acons (con (.str "up")) (acons (con (.str "nought")) (acons (con (.str "even")) (acons (con (.str "away")) anil))))))) 4 yes e1_law) (gn 3)) (t3_law)
def t1_law : Rho → SR :=
  sseq (sif (tst (bop ltD (var 2) (con (.int 0)))) (sseq (sasg (una negD (var 1)) (gn 1))
    (sasg (una negD (var 2)) (gn 2))) sskip) (t2_law)
def g_law : Rho → SR :=
  sseq (sasg (callD 2 d__law_fraction (acons (var 0) (acons (con (.int 0)) anil))) (gt 2 (gsc (gn 1) (gsc (gn 2) gsn)))) (t1_law)
def d_law (ds : List D) : Res D := runB 14 g_law ds
theorem v_law {a0 : D} : d_law [a0] = finR (g_law [.z a0, .u, .u, .u, .u, .u, .u, .u, .u, .u, .u, .u, .u, .u]) := runB_eq rfl
theorem sc_law : FnScope N_law ["script"] (defScope s_law) := ⟨rfl, rfl, rfl, by decide +kernel, rfl, by decide +kernel, by decide +kernel⟩
theorem law_fn (Z : Top w K mg) (B : ∀ d ∈ tfs, LamX.TabB base mg (He.cT K d).1 (He.cT K d).2) {fd : FuncData} (Fd : FunD K "law" "law" (defArgs s_law) (defBody s_law) (defScope s_law) [] [] (He.ga K "law") fd) : FnOk P w K mg base (L2.CX P w) 7 (He.ga K "law") fd ["script"] (spD K (tabT K) 1 d_law) := by
  refine fn_okC Fd sc_law rfl fun A outer s0 H0 E F0 hr => ?_
  obtain ⟨fdt, Ft⟩ := Z.f__law_told
  have tk : Takes (cxOf (L2.CX P w) P w K mg base N_law "law" (defScope s_law) (He.ga K "law") (.ref (He.cT K ("law", none)).1) A outer s0 H0 E) (WofE E) := takes_of rfl rfl rfl rfl
  have po : PassesOwn (model P w) (cxOf (L2.CX P w) P w K mg base N_law "law" (defScope s_law) (He.ga K "law") (.ref (He.cT K ("law", none)).1) A outer s0 H0 E).A (cxOf (L2.CX P w) P w K mg base N_law "law" (defScope s_law) (He.ga K "law") (.ref (He.cT K ("law", none)).1) A outer s0 H0 E).env (cxOf (L2.CX P w) P w K mg base N_law "law" (defScope s_law) (He.ga K "law") (.ref (He.cT K ("law", none)).1) A outer s0 H0 E).xe := passes_of (X := (cxOf (L2.CX P w) P w K mg base N_law "law" (defScope s_law) (He.ga K "law") (.ref (He.cT K ("law", none)).1) A outer s0 H0 E)) rfl
  have hu := hr.units
  exact (s_cons (s_asg (e_call (ok__law_fraction Z) hr tk rfl (a_cons (e_var (pv 0)) (a_cons e_int a_nil))) (g_tup rfl (gs_cons (g_name (pg_name (i := 1) sc_law.nd rfl (Or.inr rfl))) (gs_cons (g_name (pg_name (i := 2) sc_law.nd rfl (Or.inr rfl))) gs_nil))))
    (s_cons (s_if (q_cmp o_lt (e_var (pv 2)) e_int (nomark _)) (s_cons (s_asg (e_una u_neg (e_var (pv 1))) (g_name (pg_name (i := 1) sc_law.nd rfl (Or.inr rfl))))
    (s_one (s_asg (e_una u_neg (e_var (pv 2))) (g_name (pg_name (i := 2) sc_law.nd rfl (Or.inr rfl)))))) s_nil)
    (s_cons (s_setLc (j := 3) (x := "manner") (i := 4) rfl sc_law.nd rfl rfl (sw_true rfl rfl rfl (by decide +kernel)) (i_any (e_tup (a_cons e_str (a_cons e_str (a_cons e_str (a_cons e_str (a_cons e_str a_nil))))))) (blkOk_by (N := N_law) (sc := defScope s_law) (by decide +kernel)) (fun _ _ _ _ _ => pg_name (i := 4) sc_law.nd rfl (Or.inr rfl)) (fun _ _ _ _ _ => ts_nil) (fun _ _ _ _ _ => (e_told (k := 4) (q := ("law" : Str) ++ ".<locals>." ++ "<lambda>") Ft Z.m__law_told (Ft.bindsN (ps := ["deed"]) (fun _ _ _ _ _ _ us hl => match us, hl with | [_], _ => rfl)) sc__law_told (fun _ => told_gives toldS Z.told rfl rfl rfl) (B ("law", none) (by unfold tfs; simp)) rfl rfl (by unfold tabT; simp) Z.hu_law rfl hr (by kernel_rfl) (fun _ _ _ _ _ _ _ hr => (e_call (ok_exact Z) hr (takes_of rfl rfl rfl rfl) rfl (a_cons (e_var (pv 1)) (a_cons (e_var (pv 2)) (a_cons (e_var (pv 4)) a_nil))))))))
    (s_cons (s_setLc (j := 5) (x := "manner") (i := 4) rfl sc_law.nd rfl rfl (sw_true rfl rfl rfl (by decide +kernel)) (i_any (e_tup (a_cons e_str (a_cons e_str (a_cons e_str (a_cons e_str (a_cons e_str a_nil))))))) (blkOk_by (N := N_law) (sc := defScope s_law) (by decide +kernel)) (fun _ _ _ _ _ => pg_name (i := 4) sc_law.nd rfl (Or.inr rfl)) (fun _ _ _ _ _ => ts_nil) (fun _ _ _ _ _ => (e_told (k := 4) (q := ("law" : Str) ++ ".<locals>." ++ "<lambda>") Ft Z.m__law_told (Ft.bindsN (ps := ["deed"]) (fun _ _ _ _ _ _ us hl => match us, hl with | [_], _ => rfl)) sc__law_told (fun _ => told_gives toldS Z.told rfl rfl rfl) (B ("law", none) (by unfold tfs; simp)) rfl rfl (by unfold tabT; simp) Z.hu_law rfl hr (by kernel_rfl) (fun _ _ _ _ _ _ _ hr => (e_call (ok_exact Z) hr (takes_of rfl rfl rfl rfl) rfl (a_cons (e_una u_neg (e_var (pv 1))) (a_cons (e_var (pv 2)) (a_cons (e_var (pv 4)) a_nil))))))))
    (s_cons (s_for po rfl (i_zip rfl Z.b_zip (a_cons (e_var (pv 3)) (a_cons (e_var (pv 5)) a_nil))) (g_tup rfl (gs_cons (g_name (pg_name (i := 6) sc_law.nd rfl (Or.inl rfl))) (gs_cons (g_name (pg_name (i := 7) sc_law.nd rfl (Or.inl rfl))) gs_nil))) (s_cons (s_if (q_w (w_or (q_cmp (o_ne hu) (e_ix (e_var (pv 6)) e_int) (e_ix (e_var (pv 7)) e_int) (nomark _)) (w_or1 (q_w (w_and (q_cmp (o_eq hu) (e_ix (e_var (pv 6)) e_int) e_str (nomark _)) (w_and1 (q_cmp (o_ne hu) (e_var (pv 6)) (e_tup (a_cons e_str (a_cons e_int a_nil))) (nomark _)))))))) (s_one (s_ret e_bl)) s_nil)
    (s_one (s_if (q_w (w_and (q_cmp (o_eq hu) (e_ix (e_var (pv 6)) e_int) e_str (nomark _)) (w_and1 (q_w (w_or (q_not (q_val (e_call (ok__law_is_number Z) hr tk rfl (a_cons (e_ix (e_var (pv 6)) e_int) a_nil)))) (w_or1 (q_cmp (o_ne hu) (e_ix (e_var (pv 7)) e_int) (e_tup (a_cons (e_una u_neg (e_ix (e_ix (e_var (pv 6)) e_int) e_int)) (a_cons (e_ix (e_ix (e_var (pv 6)) e_int) e_int) a_nil))) (nomark _)))))))) (s_one (s_ret e_bl)) s_nil))))
    (s_cons (s_if (q_cmp (o_in hu) e_str (e_lc (x := "one") (i := 6) rfl sc_law.nd (i_any (e_var (pv 3))) (blkOk_by (N := N_law) (sc := defScope s_law) (by decide +kernel)) (fun _ _ _ _ _ => pg_name (i := 6) sc_law.nd rfl (Or.inl rfl)) (fun _ _ _ _ _ => ts_nil) (fun _ _ _ _ _ => (e_ix (e_var (pv 6)) e_int))) (by rfl)) (s_one (s_ret e_bl)) s_nil)
    (s_cons (s_asg (e_lc (x := "one") (i := 6) rfl sc_law.nd (i_any (e_var (pv 3))) (blkOk_by (N := N_law) (sc := defScope s_law) (by decide +kernel)) (fun _ _ _ _ _ => pg_name (i := 6) sc_law.nd rfl (Or.inl rfl)) (fun _ _ _ _ _ => ts_nil) (fun _ _ _ _ _ => (e_ix (e_var (pv 6)) e_int))) (g_tup rfl (gs_cons (g_name (pg_name (i := 8) sc_law.nd rfl (Or.inl rfl))) (gs_cons (g_name (pg_name (i := 9) sc_law.nd rfl (Or.inl rfl))) (gs_cons (g_name (pg_name (i := 10) sc_law.nd rfl (Or.inl rfl))) (gs_cons (g_name (pg_name (i := 11) sc_law.nd rfl (Or.inl rfl))) (gs_cons (g_name (pg_name (i := 12) sc_law.nd rfl (Or.inl rfl))) gs_nil)))))))
    (s_cons (s_if (q_w (w_or (q_cmp o_gt (e_call (ok__law_side Z) hr tk rfl (a_cons (e_var (pv 8)) (a_cons (e_var (pv 1)) (a_cons (e_var (pv 2)) a_nil)))) e_int (nomark _)) (w_or1 (q_cmp o_lt (e_call (ok__law_side Z) hr tk rfl (a_cons (e_var (pv 9)) (a_cons (e_var (pv 1)) (a_cons (e_var (pv 2)) a_nil)))) e_int (nomark _))))) (s_one (s_ret e_bl)) s_nil)
    (s_cons (s_if (q_cmp o_gt (e_bin o_mul (e_call (ok__law_side Z) hr tk rfl (a_cons (e_var (pv 10)) (a_cons (e_var (pv 1)) (a_cons (e_var (pv 2)) a_nil)))) (e_bin o_sub e_int (e_bin o_mul e_int (e_callTy c_int rfl Z.b_int bt_int (a_cons (e_cmp o_lt (e_var (pv 1)) e_int (nomark _)) a_nil))))) e_int (nomark _)) (s_one (s_ret e_bl)) s_nil)
    (s_cons (s_for po rfl (i_any (e_tup (a_cons (e_var (pv 11)) (a_cons (e_var (pv 12)) a_nil)))) (g_name (pg_name (i := 6) sc_law.nd rfl (Or.inl rfl))) (s_cons (s_if (q_cmp (o_ni hu) (e_var (pv 6)) (e_tup (a_cons (e_var (pv 8)) (a_cons (e_var (pv 9)) a_nil))) (by rfl)) (s_one (s_ret e_bl)) s_nil)
    (s_cons (s_if (q_w (w_and (q_cmp (o_ne hu) (e_ix (e_var (pv 6)) e_int) e_int (nomark _)) (w_and1 (q_val (e_call (ok__law_is_farther Z) hr tk rfl (a_cons (e_var (pv 6)) (a_cons (e_var (pv 8)) (a_cons (e_var (pv 1)) (a_cons (e_var (pv 2)) a_nil))))))))) (s_one (s_ret e_bl)) s_nil)
    (s_one (s_if (q_w (w_and (q_cmp (o_ne hu) (e_ix (e_var (pv 6)) e_int) e_int (nomark _)) (w_and1 (q_val (e_call (ok__law_is_farther Z) hr tk rfl (a_cons (e_var (pv 6)) (a_cons (e_var (pv 9)) (a_cons (e_var (pv 1)) (a_cons (e_var (pv 2)) a_nil))))))))) (s_one (s_ret e_bl)) s_nil)))))
    (s_cons (s_if (q_cmp (o_ni hu) (e_var (pv 10)) (e_tup (a_cons (e_var (pv 8)) (a_cons (e_var (pv 9)) a_nil))) (by rfl)) (s_one (s_ret e_bl)) s_nil)
    (s_cons (s_asg (e_call (ok_exact Z) hr tk rfl (a_cons (e_bin o_add (e_bin o_mul (e_ix (e_var (pv 8)) e_int) (e_call (ok__law_ten Z) hr tk rfl (a_cons (e_bin o_add (e_ix (e_var (pv 8)) e_int) e_int) a_nil))) (e_bin o_mul (e_ix (e_var (pv 9)) e_int) (e_call (ok__law_ten Z) hr tk rfl (a_cons (e_bin o_add (e_ix (e_var (pv 9)) e_int) e_int) a_nil)))) (a_cons (e_bin o_mul e_int (e_call (ok__law_ten Z) hr tk rfl (a_cons e_int a_nil))) (a_cons e_str a_nil)))) (g_name (pg_name (i := 13) sc_law.nd rfl (Or.inl rfl))))
    (s_one (s_ret (e_cmp (o_in hu) (e_var (pv 13)) (e_tup (a_cons (e_var (pv 8)) (a_cons (e_var (pv 9)) a_nil))) (by rfl))))))))))))))))
end
theorem x_cell {ns : List Int} {k : Int} (h : 0 ≤ k) : ∃ c, d__law_cell_at [.arr ns, .int k] = .ok (.int c) := by
  by_cases hk : k < ns.length
  · have hi : ∃ c, ixD (.arr ns) (.int k) = some (.int c) := by
      refine ⟨ns.getD k.toNat 0, ?_⟩
      show (atI ns k).map D.int = _
      unfold atI ixN
      rw [if_pos h, if_pos hk]
      show (ns[k.toNat]?).map D.int = _
      rw [List.getElem?_eq_getElem (by omega), List.getD_eq_getElem?_getD, List.getElem?_eq_getElem (by omega)]
      rfl
    obtain ⟨c, hc⟩ := hi
    exact ⟨c, by simp?! [v__law_cell_at, g__law_cell_at, t1__law_cell_at, hk, hc]⟩
  · exact ⟨0, by simp?! [v__law_cell_at, g__law_cell_at, t1__law_cell_at, hk]⟩
theorem x_mixed {ns : List Int} {k : Int} (h : 0 ≤ k) (h2 : k < 1000) : ∃ m, d__law_mixed [.arr ns, .int k] = .ok (.int m) ∧ 0 ≤ m ∧ m < 2147483629 := by
  obtain ⟨c, hc⟩ := x_cell (ns := ns) h
  simp?! [v__law_mixed, g__law_mixed, t1__law_mixed, hc]
  exact ⟨_, rfl, Int.emod_nonneg _ (by decide), Int.emod_lt_of_pos _ (by decide)⟩
/-- an int of a written menu -/
theorem menu {xs : List Int} {n : Nat} (h : n < xs.length) : ∃ v, v ∈ xs ∧ (xs.map D.int).getD n .non = .int v := by
  refine ⟨xs[n], List.getElem_mem h, ?_⟩
  rw [List.getD_eq_getElem?_getD, List.getElem?_map, List.getElem?_eq_getElem h]
  rfl
/-! the law's own numbers -/
/-- ten -/
theorem dv_zeros : ∀ (k a : Nat), (List.replicate k 48).foldl (fun acc c => acc * 10 + (c - 48)) a = a * 10 ^ k
  | 0, a => by simp
  | k + 1, a => by
    rw [List.replicate_succ, List.foldl_cons, dv_zeros k]
    show (a * 10 + 0) * 10 ^ k = a * 10 ^ (k + 1)
    rw [Nat.pow_succ, Nat.add_zero, Nat.mul_assoc, Nat.mul_comm 10]
theorem int_digits {x : Str} {n : Nat} (h : NumText.AllDigits x.cps.toList) (h1 : x.cps.toList ≠ []) (h2 : x.cps.toList.length ≤ 640) (e : NumText.digitsVal x.cps.toList = n) : intD [.str x] = some (.int n) := by
  show (if x.length ≤ 640 then (PySem.intText? x).map D.int else none) = _
  rw [if_pos (by rw [s_len]; exact h2), PySem.intText_digits h h1 (by rw [s_len]; omega), e]
  rfl
theorem x_ten {k : Int} (h : 0 ≤ k) (h2 : k ≤ 600) : d_ten [.int k] = .ok (.int (10 ^ k.toNat)) := by
  have z1 : (Str.ofString "0").length = 1 := by decide +kernel
  have l1 : (repS (Str.ofString "0") k).length = k.toNat := by rw [s_len, one_s 48 "0" zero_s, List.length_replicate]
  have o1 : (Str.ofString "1").cps.toList = [49] := by decide +kernel
  have e : (Str.ofString "1" ++ repS (Str.ofString "0") k).cps.toList = 49 :: List.replicate k.toNat 48 := by
    rw [app_tl, one_s 48 "0" zero_s, o1]; rfl
  have e1 : mulD (.str (Str.ofString "0")) (.int k) = some (.str (repS (Str.ofString "0") k)) := mul_si ⟨by omega, by omega, by rw [z1]; omega⟩
  have e2 : addD (.str (Str.ofString "1")) (.str (repS (Str.ofString "0") k)) = some (.str (Str.ofString "1" ++ repS (Str.ofString "0") k)) := add_ss (by
    rw [l1]
    have : (Str.ofString "1").length = 1 := by decide +kernel
    omega)
  have e3 : intD [.str (Str.ofString "1" ++ repS (Str.ofString "0") k)] = some (.int ((10 ^ k.toNat : Nat) : Int)) := by
    refine int_digits ?_ ?_ ?_ ?_
    · rw [e]
      intro c hc
      rcases List.mem_cons.mp hc with rfl | hc
      · omega
      · have := List.eq_of_mem_replicate hc
        omega
    · rw [e]; exact List.cons_ne_nil _ _
    · rw [e, List.length_cons, List.length_replicate]; omega
    · rw [e]
      unfold NumText.digitsVal
      rw [List.foldl_cons, dv_zeros]
      simp
  simp?! [v_ten, g_ten, e1, e2, e3]
  simp
/-! heights -/
theorem x_figures {a : Int} (h : a.natAbs < 10 ^ 500) : d_figures_of [.int a] = .ok (.int (figs a.natAbs)) := by
  obtain ⟨q1, q2⟩ := lenstr (i := (a.natAbs : Int)) (by omega) h
  have q2 : lenD [.str (Str.ofString (toString (a.natAbs : Int)))] = some (.int (figs a.natAbs)) := q2
  simp?! [v_figures_of, g_figures_of, abs_if a, q1, q2]
theorem x_height {a b : Int} (h : a.natAbs < 10 ^ 500) : d_height [.tup [.int a, .int b]] = .ok (.int (b + (figs a.natAbs : Int) - 1)) := by
  simp?! [v_height, g_height, x_figures h]
theorem x_lheight {a b : Int} (h : a.natAbs < 10 ^ 500) : d__law_height [.tup [.int a, .int b]] = .ok (.int (b + (figs a.natAbs : Int) - 1)) := by
  obtain ⟨q1, q2⟩ := lenstr (i := (a.natAbs : Int)) (by omega) h
  have q2 : lenD [.str (Str.ofString (toString (a.natAbs : Int)))] = some (.int (figs a.natAbs)) := q2
  simp?! [v__law_height, g__law_height, abs_if a, q1, q2]
/-! _law_ten -/
theorem rng1_eq {f : Rho → Res (List D)} {ρ : Rho} {j : Int} (h : f ρ = .ok [.int j]) (h1 : 0 ≤ j) (h2 : j < 5000) : rng1 f ρ = .ok (rngD 0 j.toNat) := by
  unfold rng1
  rw [h]
  simp only [Res.bind]
  rw [if_pos ⟨by omega, by omega⟩]
theorem rngD_len {i : Int} {n : Nat} : (rngD i n).length = n := by unfold rngD; rw [List.length_map, List.length_range]
theorem lten_loop : ∀ (ds : List D) (a : Int) (b : D) (c : En), ∃ c', loopD (gn 2) b1__law_ten ds [.z b, .z (.int a), c] = .nx [.z b, .z (.int (a * 10 ^ ds.length)), c']
  | [], a, b, c => ⟨c, by rw [loop_nil]; simp⟩
  | d :: ds, a, b, c => by
    obtain ⟨c', h⟩ := lten_loop ds (a * 10) b (.z d)
    refine ⟨c', ?_⟩
    have hb : b1__law_ten [.z b, .z (.int a), .z d] = .nx [.z b, .z (.int (a * 10)), .z d] := by simp?! [b1__law_ten]
    rw [loop_cons (ρ1 := [.z b, .z (.int a), .z d]) rfl hb, h, List.length_cons, Int.pow_succ, Int.mul_assoc, Int.mul_comm 10]
theorem lten_t1 {n : Nat} {c : En} (hl : loopD (gn 2) b1__law_ten (rngD 0 n) [.z (.int (n : Int)), .z (.int 1), .u] = .nx [.z (.int (n : Int)), .z (.int (10 ^ n)), c]) (e : rng1 (acons (var 0) anil) [.z (.int (n : Int)), .z (.int 1), .u] = .ok (rngD 0 n)) :
    t1__law_ten [.z (.int (n : Int)), .z (.int 1), .u] = .rt (.int (10 ^ n)) := by
  unfold t1__law_ten
  rw [sseq_def, sfor_def, e, forR_ok, hl, seqR_nx]
  unfold t2__law_ten
  simp?! []
theorem lten_g {n : Int} : g__law_ten [.z (.int n), .u, .u] = t1__law_ten [.z (.int n), .z (.int 1), .u] := by
  unfold g__law_ten
  rw [sseq_def, sasg_def, con_def, asgR_n, seqR_nx, List.set_cons_succ, List.set_cons_zero]
theorem x_lten {n : Nat} (h : n ≤ 2000) : d__law_ten [.int (n : Int)] = .ok (.int (10 ^ n)) := by
  have q : acons (var 0) anil [.z (.int (n : Int)), .z (.int 1), .u] = .ok [.int (n : Int)] := by simp?! []
  have e := rng1_eq q (by omega) (by omega)
  rw [Int.toNat_natCast] at e
  obtain ⟨c', hl⟩ := lten_loop (rngD 0 n) 1 (.int (n : Int)) .u
  rw [rngD_len, Int.one_mul] at hl
  rw [v__law_ten, lten_g, lten_t1 hl e, finR_rt]
theorem x_ltenZ {k : Int} (h : 0 ≤ k) (h2 : k ≤ 2000) : d__law_ten [.int k] = .ok (.int (10 ^ k.toNat)) := by
  obtain ⟨n, rfl⟩ := Int.eq_ofNat_of_zero_le h
  rw [Int.toNat_natCast]
  exact x_lten (by omega)
/-! exact and what it calls -/
theorem x_tenN {n : Nat} (h : n ≤ 600) : d_ten [.int (n : Int)] = .ok (.int (10 ^ n)) := by
  rw [x_ten (by omega) (by omega), Int.toNat_natCast]
theorem x_ten8 : d_ten [.int 8] = .ok (.int (10 ^ 8)) := x_ten (by decide) (by decide)
theorem x_bysize (m : Mn) (b : Bool) : d_by_size [.str m.s, .bl b] = .ok (.str (m.by b).s) := by
  have e1 : ((Str.ofString "even") == (Str.ofString "up")) = false := by decide +kernel
  have e2 : ((Str.ofString "even") == (Str.ofString "down")) = false := by decide +kernel
  have e3 : ((Str.ofString "away") == (Str.ofString "up")) = false := by decide +kernel
  have e4 : ((Str.ofString "away") == (Str.ofString "down")) = false := by decide +kernel
  have e5 : ((Str.ofString "nought") == (Str.ofString "up")) = false := by decide +kernel
  have e6 : ((Str.ofString "nought") == (Str.ofString "down")) = false := by decide +kernel
  have e7 : ((Str.ofString "down") == (Str.ofString "up")) = false := by decide +kernel
  cases m <;> cases b <;> (simp?! [Mn.s, Mn.by, Hw.s, v_by_size, g_by_size, t1_by_size, t2_by_size, e1, e2, e3, e4, e5, e6, e7, beq_self_eq_true, if_true, if_false, Bool.false_eq_true]; done)
theorem x_taken (h : Hw) {q r l : Int} : d_taken [.int q, .int r, .int l, .str h.s] = .ok (.int (takenZ h q r l)) := by
  unfold takenZ
  by_cases r0 : r = 0
  · subst r0
    simp?! [v_taken, g_taken, beq_self_eq_true, if_true]
  · have er : (r == 0) = false := by simpa using r0
    rw [if_neg r0]
    have e1 : ((Str.ofString "more") == (Str.ofString "nought")) = false := by decide +kernel
    have e2 : ((Str.ofString "even") == (Str.ofString "nought")) = false := by decide +kernel
    have e3 : ((Str.ofString "away") == (Str.ofString "nought")) = false := by decide +kernel
    have e4 : ((Str.ofString "even") == (Str.ofString "more")) = false := by decide +kernel
    have e5 : ((Str.ofString "away") == (Str.ofString "more")) = false := by decide +kernel
    have e6 : ((Str.ofString "even") == (Str.ofString "away")) = false := by decide +kernel
    cases h with
    | nought => simp?! [Hw.s, v_taken, g_taken, er, beq_self_eq_true]
    | more => simp?! [Hw.s, v_taken, g_taken, t1_taken, er, e1, beq_self_eq_true]
    | even =>
      by_cases h2 : 2 * r = l
      · have e7 : (2 * r == l) = true := by simpa using h2
        by_cases h3 : q % 2 = 1
        · simp?! [Hw.s, v_taken, g_taken, t1_taken, t2_taken, er, e2, e4, e6, e7, h3, beq_self_eq_true]
          rw [if_pos h2]
        · have e8 : (q % 2 == 1) = false := by simpa using h3
          simp?! [Hw.s, v_taken, g_taken, t1_taken, t2_taken, er, e2, e4, e6, e7, e8]
          rw [if_pos h2, if_neg h3]; simp
      · have e7 : (2 * r == l) = false := by simpa using h2
        simp?! [Hw.s, v_taken, g_taken, t1_taken, t2_taken, t3_taken, er, e2, e4, e7]
        rw [if_neg h2]; simp
    | away =>
      by_cases h2 : 2 * r = l
      · have e7 : (2 * r == l) = true := by simpa using h2
        simp?! [Hw.s, v_taken, g_taken, t1_taken, t2_taken, er, e3, e5, e7, beq_self_eq_true]
        rw [if_pos h2]; simp
      · have e7 : (2 * r == l) = false := by simpa using h2
        simp?! [Hw.s, v_taken, g_taken, t1_taken, t2_taken, t3_taken, er, e3, e5, e7]
        rw [if_neg h2]; simp
/-- the loop of fitted -/
theorem x_fitloop : ∀ (n : Nat) (a b : Int), a ≠ 0 → a.natAbs < 10 ^ n → ∀ m x y z, n < m →
    whileD c1_fitted b2_fitted m [.z (.int a), .z (.int b), x, y, z] = .nx [.z (.int (strip n a b).1), .z (.int (strip n a b).2), x, y, z]
  | 0, a, b, h, h2, m, x, y, z, hm => by
    have : (10 : Nat) ^ 0 = 1 := rfl
    omega
  | n + 1, a, b, h, h2, m, x, y, z, hm => by
    obtain ⟨m, rfl⟩ : ∃ k, m = k + 1 := ⟨m - 1, by omega⟩
    unfold strip
    by_cases h0 : a % 10 = 0
    · have ih := x_fitloop n (a / 10) (b + 1) (by omega) (by
        have : (10 : Nat) ^ (n + 1) = 10 ^ n * 10 := by rw [Nat.pow_succ]
        omega) m x y z (by omega)
      have hc : c1_fitted [.z (.int a), .z (.int b), x, y, z] = .ok true := by simp?! [c1_fitted, h0, beq_self_eq_true]
      have hb : b2_fitted [.z (.int a), .z (.int b), x, y, z] = .nx [.z (.int (a / 10)), .z (.int (b + 1)), x, y, z] := by simp?! [b2_fitted]
      rw [while_t hc hb, ih, if_pos h0]
    · have e : (a % 10 == 0) = false := by simpa using h0
      have hc : c1_fitted [.z (.int a), .z (.int b), x, y, z] = .ok false := by simp?! [c1_fitted, e]
      rw [while_f hc, if_neg h0]
def optR : Option (Int × Int) → Res D
  | none => .ex "TooGreat"
  | some (a, b) => .ok (.tup [.int a, .int b])
theorem sg_eq (b : Bool) : (1 : Int) - 2 * (if b = true then 1 else 0) = sgZ b := rfl
theorem x_fitted (h : Hw) {w p : Int} {b : Bool} (h0 : 0 < w) (h1 : w.natAbs < 10 ^ 450) : d_fitted [.int w, .int p, .bl b, .str h.s] = optR (fitZ h w p b) := by
  have hl := x_fitloop 5000 w p (by omega) (Nat.lt_of_lt_of_le h1 (pow10_le (by decide))) 100000 (.z (.bl b)) (.z (.str h.s)) .u (by decide)
  obtain ⟨s1, s2, _, _⟩ := strip_pos 5000 w p h0
  have e0 : (w == 0) = false := by simpa using (show w ≠ 0 by omega)
  have hb : (strip 5000 w p).1.natAbs < 10 ^ 500 := Nat.lt_of_le_of_lt (by omega) (Nat.lt_of_lt_of_le h1 (pow10_le (by decide)))
  have hh := x_height (a := (strip 5000 w p).1) (b := (strip 5000 w p).2) hb
  have eh : (strip 5000 w p).2 + (figs (strip 5000 w p).1.natAbs : Int) - 1 = hgZ (strip 5000 w p) := rfl
  rw [eh] at hh
  unfold fitZ
  by_cases c1 : 40 < hgZ (strip 5000 w p)
  · rw [if_pos c1]
    simp?! [v_fitted, g_fitted, t1_fitted, t2_fitted, t3_fitted, e0, hl, hh, c1, sg_eq]
    rfl
  · rw [if_neg c1]
    have d1 : decide (40 < hgZ (strip 5000 w p)) = false := decide_eq_false c1
    by_cases c2 : hgZ (strip 5000 w p) < -40
    · rw [if_pos c2]
      have ek : (h.s == Str.ofString "more") = decide (h = .more) := by cases h <;> decide +kernel
      by_cases hm : h = .more
      · rw [decide_eq_true hm] at ek
        rw [if_pos hm]
        simp?! [v_fitted, g_fitted, t1_fitted, t2_fitted, t3_fitted, t4_fitted, e0, hl, hh, d1, c2, sg_eq, ek, optR]
      · rw [decide_eq_false hm] at ek
        rw [if_neg hm]
        simp?! [v_fitted, g_fitted, t1_fitted, t2_fitted, t3_fitted, t4_fitted, e0, hl, hh, d1, c2, sg_eq, ek, optR]
    · rw [if_neg c2]
      have d2 : decide (hgZ (strip 5000 w p) < -40) = false := decide_eq_false c2
      have m1 : mulD (.int (sgZ b)) (.int (strip 5000 w p).1) = some (.int (sgZ b * (strip 5000 w p).1)) := mul_l (by unfold sgZ; cases b <;> decide)
      simp?! [v_fitted, g_fitted, t1_fitted, t2_fitted, t3_fitted, t4_fitted, t5_fitted, e0, hl, hh, d1, d2, sg_eq, m1, optR]
theorem cast10 (a : Nat) : ((10 ^ a : Nat) : Int) = 10 ^ a := by
  rw [Int.natCast_pow]
  rfl
theorem c1_pf {U L : Nat} {p : Int} (bU : U < 10 ^ 200) (bL : L < 10 ^ 200) (h1 : -450 ≤ p) (h2 : p ≤ 450) :
    c1_power_for [.z (.int (U : Int)), .z (.int (L : Int)), .z (.int p)] = .ok (decide (L * 10 ^ p.toNat * 10 ^ 8 ≤ U * 10 ^ (-p).toNat)) := by
  have m1 := mul_t (u := (U : Int)) (n := (-p).toNat) (Nat.lt_of_lt_of_le bU (pow10_le (by decide))) (by omega)
  have m2 := mul_t (u := (L : Int)) (n := p.toNat) (Nat.lt_of_lt_of_le bL (pow10_le (by decide))) (by omega)
  have m3 := mul_t (u := (L : Int) * 10 ^ p.toNat) (n := 8) (Nat.lt_of_lt_of_le (natAbs_mul_pow (k := 200) bL) (pow10_le (by omega))) (by omega)
  have e : ((L : Int) * 10 ^ p.toNat * 10 ^ 8 ≤ (U : Int) * 10 ^ (-p).toNat) ↔ (L * 10 ^ p.toNat * 10 ^ 8 ≤ U * 10 ^ (-p).toNat) := by
    rw [← Int.ofNat_le, Int.natCast_mul, Int.natCast_mul, Int.natCast_mul, cast10, cast10, cast10]
  simp?! [c1_power_for, maxz, x_tenN, x_ten8, m1, m2, m3]
  rw [decide_eq_decide.mpr e]
theorem x_power {U L : Nat} (hU : 0 < U) (hL : 0 < L) (bU : U < 10 ^ 200) (bL : L < 10 ^ 200) : d_power_for [.int (U : Int), .int (L : Int)] = .ok (.int (pwN U L)) := by
  have f1 := figs_pos U
  have f2 := figs_le (by decide) bU
  have f3 := figs_pos L
  have f4 := figs_le (by decide) bL
  have e1 := x_figures (a := (U : Int)) (Nat.lt_of_lt_of_le bU (pow10_le (by decide)))
  have e2 := x_figures (a := (L : Int)) (Nat.lt_of_lt_of_le bL (pow10_le (by decide)))
  rw [Int.natAbs_natCast] at e1 e2
  have key : d_power_for [.int (U : Int), .int (L : Int)] = finR (t1_power_for [.z (.int (U : Int)), .z (.int (L : Int)), .z (.int (pw0 U L))]) := by
    simp?! [v_power_for, g_power_for, e1, e2]
    rfl
  rw [key]
  have b0 : -450 ≤ pw0 U L ∧ pw0 U L ≤ 440 := by unfold pw0; omega
  have c0 := c1_pf (p := pw0 U L) bU bL (by omega) (by omega)
  unfold pwN
  by_cases h : L * 10 ^ (pw0 U L).toNat * 10 ^ 8 ≤ U * 10 ^ (-(pw0 U L)).toNat
  · rw [decide_eq_true h] at c0
    have c1 := c1_pf (p := pw0 U L + 1) bU bL (by omega) (by omega)
    rw [decide_eq_false (Nat.not_le.mpr (pw_hi hL rfl))] at c1
    have hb : b2_power_for [.z (.int (U : Int)), .z (.int (L : Int)), .z (.int (pw0 U L))] = .nx [.z (.int (U : Int)), .z (.int (L : Int)), .z (.int (pw0 U L + 1))] := by simp?! [b2_power_for]
    have hw : whileD c1_power_for b2_power_for 100000 [.z (.int (U : Int)), .z (.int (L : Int)), .z (.int (pw0 U L))] = .nx [.z (.int (U : Int)), .z (.int (L : Int)), .z (.int (pw0 U L + 1))] := by
      rw [while_t (n := 99999) c0 hb, while_f (n := 99998) c1]
    rw [if_pos h]
    simp?! [t1_power_for, t2_power_for, hw]
  · rw [decide_eq_false h] at c0
    have hw : whileD c1_power_for b2_power_for 100000 [.z (.int (U : Int)), .z (.int (L : Int)), .z (.int (pw0 U L))] = .nx [.z (.int (U : Int)), .z (.int (L : Int)), .z (.int (pw0 U L))] := while_f (n := 99999) c0
    rw [if_neg h]
    simp?! [t1_power_for, t2_power_for, hw]
theorem finR_ret {r : Res D} {ρ : Rho} : finR (retR r ρ) = r := by cases r <;> rfl
theorem pw_bound {U L : Nat} (bU : U < 10 ^ 200) (bL : L < 10 ^ 200) : -250 ≤ pwN U L ∧ pwN U L ≤ 250 := by
  have f1 := figs_pos U
  have f2 := figs_le (by decide) bU
  have f3 := figs_pos L
  have f4 := figs_le (by decide) bL
  unfold pwN pw0
  split <;> omega
/-- the quotient and the rest that are rounded -/
theorem q_facts {U L : Nat} (hU : 0 < U) (hL : 0 < L) (bU : U < 10 ^ 200) : 0 < (U : Int) * 10 ^ (-(pwN U L)).toNat / ((L : Int) * 10 ^ (pwN U L).toNat) ∧ (U : Int) * 10 ^ (-(pwN U L)).toNat / ((L : Int) * 10 ^ (pwN U L).toNat) < 10 ^ 8 ∧ 0 < (L : Int) * 10 ^ (pwN U L).toNat ∧ 0 < (U : Int) * 10 ^ (-(pwN U L)).toNat := by
  obtain ⟨h1, h2⟩ := pw_low hU hL
  have l0 : 0 < L * 10 ^ (pwN U L).toNat := Nat.mul_pos hL (pow10_pos _)
  have u0 : 0 < U * 10 ^ (-(pwN U L)).toNat := Nat.mul_pos hU (pow10_pos _)
  have e1 : (U : Int) * 10 ^ (-(pwN U L)).toNat = ((U * 10 ^ (-(pwN U L)).toNat : Nat) : Int) := by rw [Int.natCast_mul, cast10]
  have e2 : (L : Int) * 10 ^ (pwN U L).toNat = ((L * 10 ^ (pwN U L).toNat : Nat) : Int) := by rw [Int.natCast_mul, cast10]
  rw [e1, e2]
  generalize U * 10 ^ (-(pwN U L)).toNat = x at *
  generalize L * 10 ^ (pwN U L).toNat = y at *
  have a1 : 0 < x / y := Nat.div_pos (by omega) l0
  have a2 : x / y < 10 ^ 8 := Nat.div_lt_of_lt_mul (by omega)
  rw [← Int.natCast_ediv]
  exact ⟨by omega, by omega, by omega, by omega⟩
theorem taken_bound (h : Hw) {q r l : Int} : q ≤ takenZ h q r l ∧ takenZ h q r l ≤ q + 1 := by
  unfold takenZ
  split
  · omega
  · cases h <;> (repeat' split) <;> omega
theorem x_exact (m : Mn) {u l : Int} (hl : l ≠ 0) (bu : u.natAbs < 10 ^ 200) (bl : l.natAbs < 10 ^ 200) : d_exact [.int u, .int l, .str m.s] = optR (exZ m u l) := by
  unfold exZ
  by_cases h0 : u = 0
  · subst h0
    rw [if_pos rfl]
    simp?! [v_exact, g_exact, beq_self_eq_true, optR]
  · rw [if_neg h0]
    have e0 : (u == 0) = false := by simpa using h0
    obtain ⟨p1, p2⟩ := pw_bound bu bl
    have hU : 0 < u.natAbs := by omega
    have hL : 0 < l.natAbs := by omega
    obtain ⟨f1, f2, f3, f4⟩ := q_facts hU hL bu
    have ep := x_power hU hL bu bl
    generalize hp : pwN u.natAbs l.natAbs = p at *
    have t1 := x_tenN (n := (-p).toNat) (by omega)
    have t2 := x_tenN (n := p.toNat) (by omega)
    have m1 := mul_t (u := (u.natAbs : Int)) (n := (-p).toNat) (Nat.lt_of_lt_of_le bu (pow10_le (by decide))) (by omega)
    have m2 := mul_t (u := (l.natAbs : Int)) (n := p.toNat) (Nat.lt_of_lt_of_le bl (pow10_le (by decide))) (by omega)
    have dv := div_z (i := (u.natAbs : Int) * 10 ^ (-p).toNat) f3 (Nat.lt_of_lt_of_le (natAbs_mul_pow (u := (l.natAbs : Int)) (k := 200) bl) (pow10_le (by omega)))
    have md := mod_p (i := (u.natAbs : Int) * 10 ^ (-p).toNat) f3
    have bs := x_bysize m (decide (u < 0) != decide (l < 0))
    have tb := taken_bound (m.by (decide (u < 0) != decide (l < 0))) (q := (u.natAbs : Int) * 10 ^ (-p).toNat / ((l.natAbs : Int) * 10 ^ p.toNat)) (r := (u.natAbs : Int) * 10 ^ (-p).toNat % ((l.natAbs : Int) * 10 ^ p.toNat)) (l := (l.natAbs : Int) * 10 ^ p.toNat)
    have p9 : (10 : Nat) ^ 9 ≤ 10 ^ 450 := pow10_le (by decide)
    have ft := x_fitted (m.by (decide (u < 0) != decide (l < 0))) (p := p) (b := decide (u < 0) != decide (l < 0)) (w := takenZ (m.by (decide (u < 0) != decide (l < 0))) ((u.natAbs : Int) * 10 ^ (-p).toNat / ((l.natAbs : Int) * 10 ^ p.toNat)) ((u.natAbs : Int) * 10 ^ (-p).toNat % ((l.natAbs : Int) * 10 ^ p.toNat)) ((l.natAbs : Int) * 10 ^ p.toNat)) (by omega) (by omega)
    have nb : ∀ a b : Bool, (!(a == b)) = (a != b) := fun a b => rfl
    have key : d_exact [.int u, .int l, .str m.s] = finR (t5_exact [.z (.int (u.natAbs : Int)), .z (.int (l.natAbs : Int)), .z (.str m.s), .z (.bl (decide (u < 0) != decide (l < 0))), .z (.int p), .u]) := by
      simp?! [v_exact, g_exact, t1_exact, t2_exact, t3_exact, t4_exact, e0, abs_if, ep, nb]
    rw [key]
    simp only
    generalize (decide (u < 0) != decide (l < 0)) = bb at *
    generalize m.by bb = hw at *
    generalize (u.natAbs : Int) * 10 ^ (-p).toNat = UU at *
    generalize (l.natAbs : Int) * 10 ^ p.toNat = LL at *
    simp?! [t5_exact, t6_exact, t7_exact, t8_exact, maxz, t1, t2, m1, m2, dv, md, bs, x_taken]
    rw [finR_ret]
    exact ft
/-! the law's exact -/
/-! manners -/
def FracOk (u l : Int) : Prop := l ≠ 0 ∧ u.natAbs < 10 ^ 200 ∧ l.natAbs < 10 ^ 200
/-! comparing, comprehensions -/
mutual
theorem eqd_refl : ∀ (n : Nat) (d : D), plain n d = true → eqd d d = true
  | _, .non, _ => rfl
  | _, .bl b, _ => by simp [eqd]
  | _, .int i, _ => by simp [eqd]
  | _, .str x, _ => by simp [eqd]
  | n, .lst xs, h => by
    cases n with
    | zero => cases h
    | succ n => exact eqds_refl n xs h
  | n, .tup xs, h => by
    cases n with
    | zero => cases h
    | succ n => exact eqds_refl n xs h
  | n, .fn _, h => by cases n <;> cases h
  | n, .ty _, h => by cases n <;> cases h
  | n, .dK _, h => by cases n <;> cases h
  | n, .dT _, h => by cases n <;> cases h
  | n, .arr _, h => by cases n <;> cases h
  | n, .pro _, h => by cases n <;> cases h
theorem eqds_refl : ∀ (n : Nat) (ds : List D), plains n ds = true → eqds ds ds = true
  | _, [], _ => rfl
  | n, d :: ds, h => by
    have h : (plain n d && plains n ds) = true := h
    rw [Bool.and_eq_true] at h
    show (eqd d d && eqds ds ds) = true
    rw [eqd_refl n d h.1, eqds_refl n ds h.2]
    rfl
end
theorem ne_same {d : D} (h : plain 64 d = true) : neD d d = some (.bl false) := by
  unfold neD eqOk
  rw [h, Bool.and_self, Bool.and_self, Bool.or_true, if_pos rfl, eqd_refl 64 d h]
  rfl
theorem comp_t {g : Tg} {t : Rho → Res Bool} {e : Rho → Res D} {ρ ρ1 : Rho} {d y : D} {ds ys : List D} (h : g ρ d = some ρ1) (h2 : t ρ1 = .ok true) (h3 : e ρ1 = .ok y) (h4 : compD g t e ρ ds = .ok ys) : compD g t e ρ (d :: ds) = .ok (y :: ys) := by
  rw [compD, h]
  simp only
  rw [h2]
  simp only [if_true]
  rw [h3]
  simp only
  rw [h4]
  rfl
theorem lc_eq {f : Rho → Res (List D)} {i : Nat} {t : Rho → Res Bool} {e : Rho → Res D} {ρ : Rho} {ds ys : List D} (h : f ρ = .ok ds) (hl : ds.length ≤ 1000000) (h2 : compD (gn i) t e (ρ.set i .u) ds = .ok ys) : lcD f i t e ρ = .ok (.lst ys) := by
  unfold lcD
  rw [h]
  simp only [Res.bind]
  rw [if_pos (by rw [sizeLine_eq]; omega), h2]
/-! plus, minus, times, over, less, and the law's deed -/
def NumB (a b : Int) : Prop := a.natAbs < 10 ^ 8 ∧ -48 ≤ b ∧ b ≤ 40
theorem num_b {a b : Int} (h : NumOk a b) : NumB a b := by
  rcases h with ⟨h1, h2⟩ | ⟨h0, _, h3, h4, h5⟩
  · subst h1; subst h2
    exact ⟨by decide, by decide, by decide⟩
  · have f1 := figs_pos a.natAbs
    have f2 := figs_le (by decide) h3
    exact ⟨h3, by omega, by omega⟩
/-! the law's -/
theorem told_def {f : Rho → Res D} {ρ : Rho} : toldD f ρ = toldR (f ρ) := rfl
def tv : Option (Int × Int) → D
  | none => .tup [.str "refused", .int 0]
  | some (a, b) => .tup [.str "told", .tup [.int a, .int b]]
theorem told_opt {z : Option (Int × Int)} : toldR (optR z) = .ok (tv z) := by
  cases z with
  | none => rfl
  | some p => rfl
/-! the deeds by value -/
theorem NumB.neg {a b : Int} (h : NumB a b) : NumB (-a) b := ⟨by rw [Int.natAbs_neg]; exact h.1, h.2⟩
/-! ranges -/
abbrev numD (s : Int × Int) : D := .tup [.int s.1, .int s.2]
/-! drawn ranges -/
/-! intervals -/
/-! entries -/
def tidyZ (a b : Int) : Int × Int := if a = 0 then (0, 0) else strip 5000 a b
structure Ent where
  neg : Bool
  ah : List Nat
  pt : Bool
  be : List Nat
def Ent.L (e : Ent) : List Nat := (if e.neg = true then [45] else []) ++ e.ah ++ (if e.pt = true then 46 :: e.be else [])
def Ent.val (e : Ent) : Int := if e.neg = true then -((digitsVal (e.ah ++ e.be) : Nat) : Int) else ((digitsVal (e.ah ++ e.be) : Nat) : Int)
def Ent.num (e : Ent) : Int × Int := tidyZ e.val (-(e.be.length : Int))
/-! keys and states -/
inductive Dd where | plus | minus | times | over
  deriving DecidableEq
inductive Ky where | fig (i : Fin 10) | dot | sign | enter | dd (w : Dd) | root | swap | roll | last | clear | put (i : Fin 10) | get (i : Fin 10)
  deriving DecidableEq
def Dd.s : Dd → Str
  | .plus => "plus" | .minus => "minus" | .times => "times" | .over => "over"
def Ky.s : Ky → Str
  | .fig i => S [48 + i.val] | .dot => "." | .sign => "sign" | .enter => "enter" | .dd w => w.s | .root => "root" | .swap => "swap" | .roll => "roll" | .last => "last" | .clear => "clear" | .put i => S [112, 117, 116, 48 + i.val] | .get i => S [103, 101, 116, 48 + i.val]
structure Sta where
  m : Mn
  x : Int × Int
  y : Int × Int
  z : Int × Int
  t : Int × Int
  l : Int × Int
  bx : List (Int × Int)
  en : Option Ent
  lf : Bool
  od : Option Bool
def enD : Option Ent → D
  | none => .non
  | some e => .str (S e.L)
def odD : Option Bool → D
  | none => .non
  | some false => .str "deed"
  | some true => .str "great"
def Sta.D (s : Sta) : D := .tup [.str s.m.s, .tup [numD s.x, numD s.y, numD s.z, numD s.t], numD s.l, .tup (s.bx.map numD), enD s.en, .bl s.lf, odD s.od]
abbrev NO (s : Int × Int) : Prop := NumOk s.1 s.2
/-! the keys that look at no text and no value -/
section
variable {m l B en x y z t b0 b1 b2 b3 b4 b5 b6 b7 b8 b9 P lf : D}
end
/-! figures and points -/
section
variable {m l B x y z t f : D} {en : D}
theorem nn : isN .non .non = some (.bl true) := rfl
theorem ns {s : Str} : isN (.str s) .non = some (.bl false) := rfl
end
/-! root -/
/-! deeds by key -/
section
variable {m l B x y z t f : D} {en : D}
end
/-! roots -/
/-! a key pressed -/
/-! rows -/
theorem its_T {f : Rho → Res D} {ds : List D} {ρ : Rho} (h : f ρ = .ok (.tup ds)) : its f ρ = .ok ds := by
  unfold its
  rw [h]
  rfl
/-! written -/
/-! lists -/
/-! drawn keys -/
/-! states are plain -/
/-! what is shown -/
/-! the law's is_number, of a number -/
theorem lis_b {a b c : Int} : b1__law_is_number [.z (.tup [.int a, .int b]), .z (.int c)] = .nx [.z (.tup [.int a, .int b]), .z (.int c)] := by
  have k1 : kitB "int" "int" = some true := by decide +kernel
  have k2 : kitB "int" "bool" = some false := by decide +kernel
  simp?! [b1__law_is_number, isi_i k1, isi_i k2]
theorem lis_loop {a b : Int} : loopD (gn 1) b1__law_is_number [.int a, .int b] [.z (.tup [.int a, .int b]), .u] = .nx [.z (.tup [.int a, .int b]), .z (.int b)] := by
  rw [loop_cons (ρ1 := [.z (.tup [.int a, .int b]), .z (.int a)]) rfl lis_b, loop_cons (ρ1 := [.z (.tup [.int a, .int b]), .z (.int b)]) rfl lis_b, loop_nil]
theorem its_2 {x y : D} {r : Rho} : its (var 0) (.z (.tup [x, y]) :: r) = .ok [x, y] := rfl
theorem len_2 {x y : D} : ((([x, y] : List D).length : Int) == 2) = true := rfl
theorem x_lisnum {a b : Int} (h : NumOk a b) : d__law_is_number [.tup [.int a, .int b]] = .ok (.bl true) := by
  have k3 : kitB "tuple" "tuple" = some true := by decide +kernel
  rcases h with ⟨h1, h2⟩ | ⟨h0, hm, h3, h4, h5⟩
  · subst h1; subst h2
    simp?! [v__law_is_number, g__law_is_number, t1__law_is_number, t2__law_is_number, t3__law_is_number, isi_t k3, len_2, its_2, lis_loop, beq_self_eq_true]
  · have e0 : (a == 0) = false := by simpa using h0
    have e1 : (a % 10 == 0) = false := by simpa using hm
    have hd1 : decide ((a.natAbs : Int) < 100000000) = true := decide_eq_true (by omega)
    have hh := x_lheight (a := a) (b := b) (Nat.lt_of_lt_of_le h3 (pow10_le (by decide)))
    have d4 : decide (-40 ≤ b + (figs a.natAbs : Int) - 1) = true := decide_eq_true h4
    have d5 : decide (b + (figs a.natAbs : Int) - 1 ≤ 40) = true := decide_eq_true h5
    simp?! [v__law_is_number, g__law_is_number, t1__law_is_number, t2__law_is_number, t3__law_is_number, isi_t k3, len_2, its_2, lis_loop, e0, e1, abs_if, hd1, hh, d4, d5, Bool.and_self]
/-! _law_fraction -/
theorem fr_t5 {a b : D} {n u l : Int} (h0 : 0 < l) (hu : u.natAbs < 10 ^ 150) (hl : l.natAbs < 10 ^ 150) : ∃ u' l', finR (t5__law_fraction [.z a, .z b, .z (.int n), .z (.int u), .z (.int l)]) = .ok (.tup [.int u', .int l']) ∧ FracOk u' l' := by
  have p : (10 : Nat) ^ 150 * 10 ^ 5 ≤ 10 ^ 200 := by rw [pow_add10]; exact pow10_le (by decide)
  generalize hP : (10 : Nat) ^ 150 = P at *
  generalize hR : (10 : Nat) ^ 200 = R at *
  obtain ⟨s, hs⟩ : ∃ s : Int, s = 1 - 2 * (n / 524288 % 2) ∧ (s = 1 ∨ s = -1) := ⟨_, rfl, by omega⟩
  by_cases h : n / 65536 % 2 = 1
  · obtain ⟨v, v1, v2⟩ := menu (xs := [2, 20, 200, 2000]) (n := (n / 131072 % 4).toNat) (by simp; omega)
    simp only [List.map_cons, List.map_nil] at v2
    have hv : 2 ≤ v ∧ v ≤ 2000 := by simp at v1; omega
    refine ⟨2 * u + 1, l * v * s, ?_, ?_⟩
    · simp?! [t5__law_fraction, t6__law_fraction, h, beq_self_eq_true, v2, ← hs.1]
    · have e1 : (l * v * s).natAbs = (l * v).natAbs := by rcases hs.2 with e | e <;> rw [e] <;> simp
      have e2 : (l * v).natAbs = l.natAbs * v.natAbs := Int.natAbs_mul l v
      have e3 : l.natAbs * v.natAbs ≤ l.natAbs * 2000 := Nat.mul_le_mul_left _ (by omega)
      have e4 : l.natAbs * 2 ≤ l.natAbs * v.natAbs := Nat.mul_le_mul_left _ (by omega)
      unfold FracOk
      rw [hR]
      exact ⟨by omega, by omega, by omega⟩
  · have e : (n / 65536 % 2 == 1) = false := by simpa using h
    refine ⟨u, l * s, ?_, ?_⟩
    · simp?! [t5__law_fraction, t6__law_fraction, e, ← hs.1]
    · have e1 : (l * s).natAbs = l.natAbs := by rcases hs.2 with e | e <;> rw [e] <;> simp
      unfold FracOk
      rw [hR]
      exact ⟨by omega, by omega, by omega⟩
theorem fr_t4 {a b : D} {n u l : Int} (h0 : 0 < l) (hu : u.natAbs < 10 ^ 50) (hl : l.natAbs < 10 ^ 50) : ∃ u' l', finR (t4__law_fraction [.z a, .z b, .z (.int n), .z (.int u), .z (.int l)]) = .ok (.tup [.int u', .int l']) ∧ FracOk u' l' := by
  by_cases h : n / 4096 % 3 = 2
  · have n1 : 0 ≤ n / 16384 % 50 ∧ n / 16384 % 50 < 50 := by omega
    have n2 : 0 ≤ n / 1048576 % 60 ∧ n / 1048576 % 60 < 60 := by omega
    have m1 := mul_t (u := u) (n := (n / 16384 % 50).toNat) (Nat.lt_of_lt_of_le hu (pow10_le (by decide))) (by omega)
    have m2 := mul_t (u := l) (n := (n / 1048576 % 60).toNat) (Nat.lt_of_lt_of_le hl (pow10_le (by decide))) (by omega)
    have t1 := x_ltenZ n1.1 (by omega)
    have t2 := x_ltenZ n2.1 (by omega)
    have key : finR (t4__law_fraction [.z a, .z b, .z (.int n), .z (.int u), .z (.int l)]) = finR (t5__law_fraction [.z a, .z b, .z (.int n), .z (.int (u * 10 ^ (n / 16384 % 50).toNat)), .z (.int (l * 10 ^ (n / 1048576 % 60).toNat))]) := by
      simp?! [t4__law_fraction, h, beq_self_eq_true, t1, t2, m1, m2]
    rw [key]
    refine fr_t5 (Int.mul_pos h0 (Int.pow_pos (by decide))) (Nat.lt_of_lt_of_le (natAbs_mul_pow (k := 50) hu) (pow10_le (by omega))) (Nat.lt_of_lt_of_le (natAbs_mul_pow (k := 50) hl) (pow10_le (by omega)))
  · have e : (n / 4096 % 3 == 2) = false := by simpa using h
    have key : finR (t4__law_fraction [.z a, .z b, .z (.int n), .z (.int u), .z (.int l)]) = finR (t5__law_fraction [.z a, .z b, .z (.int n), .z (.int u), .z (.int l)]) := by
      simp?! [t4__law_fraction, e]
    rw [key]
    exact fr_t5 h0 (Nat.lt_of_lt_of_le hu (pow10_le (by decide))) (Nat.lt_of_lt_of_le hl (pow10_le (by decide)))
theorem x_fraction {ns : List Int} {k : Int} (hk : 0 ≤ k) (hk2 : k < 900) : ∃ u l, d__law_fraction [.arr ns, .int k] = .ok (.tup [.int u, .int l]) ∧ FracOk u l := by
  obtain ⟨m0, e0, a0, a1⟩ := x_mixed (ns := ns) (k := k) (by omega) (by omega)
  obtain ⟨m1, e1, b0, b1⟩ := x_mixed (ns := ns) (k := k + 1) (by omega) (by omega)
  obtain ⟨m2, e2, c0, c1⟩ := x_mixed (ns := ns) (k := k + 2) (by omega) (by omega)
  obtain ⟨hi, h1, h2⟩ := menu (xs := [100, 10000, 2000000000, 2000000000]) (n := (m0 % 4).toNat) (by simp; omega)
  simp only [List.map_cons, List.map_nil] at h2
  have hb : 0 < hi ∧ hi ≤ 2000000000 := by simp at h1; omega
  obtain ⟨lo, l1, l2⟩ := menu (xs := [1, 2, 8, 3, 7, 64, 9999, 1 + m2 % 1000]) (n := (m0 / 256 % 8).toNat) (by simp; omega)
  simp only [List.map_cons, List.map_nil] at l2
  have lb : 0 < lo ∧ lo ≤ 9999 := by simp at l1; omega
  have u0 : 0 ≤ m1 % hi := Int.emod_nonneg _ (by omega)
  have u1 : m1 % hi < hi := Int.emod_lt_of_pos _ (by omega)
  have key : d__law_fraction [.arr ns, .int k] = finR (t3__law_fraction [.z (.arr ns), .z (.int k), .z (.int m0), .z (.int (m1 % hi - m0 / 4 % 50)), .z (.int lo)]) := by
    simp?! [v__law_fraction, g__law_fraction, t1__law_fraction, t2__law_fraction, e0, e1, e2, h2, l2]
  rw [key]
  generalize m1 % hi = x at *
  have p20 : (10 : Nat) ^ 20 ≤ 10 ^ 50 := pow10_le (by decide)
  by_cases h : m0 / 4096 % 3 = 1
  · obtain ⟨v, v1, v2⟩ := menu (xs := [10, 1, 100000]) (n := (m0 / 16384 % 3).toNat) (by simp; omega)
    simp only [List.map_cons, List.map_nil] at v2
    have hv : 0 < v ∧ v ≤ 100000 := by simp at v1; omega
    have key2 : finR (t3__law_fraction [.z (.arr ns), .z (.int k), .z (.int m0), .z (.int (x - m0 / 4 % 50)), .z (.int lo)]) = finR (t4__law_fraction [.z (.arr ns), .z (.int k), .z (.int m0), .z (.int ((x - m0 / 4 % 50) * 1000000007 + m2)), .z (.int (lo * v))]) := by
      simp?! [t3__law_fraction, h, beq_self_eq_true, e2, v2]
    rw [key2]
    have v0 : 0 < lo * v := Int.mul_pos lb.1 hv.1
    have v3 : lo * v ≤ lo * 100000 := Int.mul_le_mul_of_nonneg_left hv.2 (by omega)
    exact fr_t4 v0 (by omega) (by omega)
  · have e : (m0 / 4096 % 3 == 1) = false := by simpa using h
    have key2 : finR (t3__law_fraction [.z (.arr ns), .z (.int k), .z (.int m0), .z (.int (x - m0 / 4 % 50)), .z (.int lo)]) = finR (t4__law_fraction [.z (.arr ns), .z (.int k), .z (.int m0), .z (.int (x - m0 / 4 % 50)), .z (.int lo)]) := by
      simp?! [t3__law_fraction, e]
    rw [key2]
    exact fr_t4 lb.1 (by omega) (by omega)
/-! nearest numbers -/
theorem tk_near {h : Hw} (hh : h = .even ∨ h = .away) (x : Rat) (hx : ¬ x = (x.floor : Rat)) : (tkR h x = x.floor ∧ 2 * (x - x.floor) ≤ 1) ∨ (tkR h x = x.floor + 1 ∧ 1 ≤ 2 * (x - x.floor)) := by
  rcases hh with rfl | rfl
  · unfold tkR
    rw [if_neg hx]
    simp only
    split
    · rename_i q
      split
      · exact .inr ⟨rfl, by grind⟩
      · exact .inl ⟨by omega, by grind⟩
    · split
      · exact .inr ⟨rfl, by grind⟩
      · exact .inl ⟨by omega, by grind⟩
  · unfold tkR
    rw [if_neg hx]
    simp only
    split
    · exact .inr ⟨rfl, by grind⟩
    · split
      · exact .inr ⟨rfl, by grind⟩
      · exact .inl ⟨by omega, by grind⟩
theorem near_pos {h : Hw} (hh : h = .even ∨ h = .away) {w r a b : Rat} (hw : 0 < w) (e : rd1 h w = some r) (ea : rd1 .nought w = some a) (eb : rd1 .more w = some b) (hr : r ≠ 0) : (r = a ∧ w - a ≤ b - w) ∨ (r = b ∧ b - w ≤ w - a) := by
  have hm : h ≠ .more := by rcases hh with rfl | rfl <;> decide
  have rn := rw_range .nought hw
  have tp := T_pos (pR w + 7)
  unfold rd1 at e ea eb
  have sb := sc_back w (pR w)
  have t0 := T_pos (pR w)
  have key : (rwR h w = rwR .nought w ∧ w - rwR .nought w ≤ rwR .more w - w ∧ rwR .nought w ≤ rwR .more w) ∨ (rwR h w = rwR .more w ∧ rwR .more w - w ≤ w - rwR .nought w ∧ rwR .nought w ≤ rwR .more w) := by
    unfold rwR
    generalize hx : w * T (-(pR w)) = x at *
    generalize T (pR w) = t at *
    by_cases q : x = (x.floor : Rat)
    · have e1 : ∀ h, tkR h x = x.floor := fun h => by unfold tkR; rw [if_pos q]
      rw [e1, e1, e1]
      exact .inl ⟨rfl, by grind, Rat.le_refl⟩
    · have e1 : tkR .nought x = x.floor := by unfold tkR; rw [if_neg q]
      have e2 : tkR .more x = x.floor + 1 := by unfold tkR; rw [if_neg q]
      have e3 : (((x.floor + 1 : Int)) : Rat) = (x.floor : Rat) + 1 := by rw [Rat.intCast_add]; rfl
      rw [e1, e2, e3]
      rcases tk_near hh x q with ⟨k1, k2⟩ | ⟨k1, k2⟩
      · have k3 := Rat.mul_le_mul_of_nonneg_right k2 (Rat.le_of_lt t0)
        rw [k1]
        exact .inl ⟨rfl, by grind, by grind⟩
      · have k3 := Rat.mul_le_mul_of_nonneg_right k2 (Rat.le_of_lt t0)
        rw [k1, e3]
        exact .inr ⟨rfl, by grind, by grind⟩
  generalize rwR h w = R at *
  generalize rwR .nought w = N at *
  generalize rwR .more w = M at *
  have tn : 0 < N := by grind
  clear rn tp sb t0 hh
  generalize T 41 = t41 at *
  generalize T (-40) = t40 at *
  split at e
  · cases e
  · split at e
    · cases e
      exact absurd (by first | rfl | rw [if_neg hm]) hr
    · cases e
      split at ea
      · cases ea
      · split at eb
        · cases eb
        · rcases key with ⟨rfl, k2, k3⟩ | ⟨rfl, k2, k3⟩
          · split at ea
            · exfalso; grind
            · cases ea
              split at eb
              · exfalso; grind
              · cases eb
                exact .inl ⟨rfl, k2⟩
          · split at eb
            · exfalso; grind
            · cases eb
              split at ea
              · cases ea
                refine .inr ⟨rfl, ?_⟩
                rw [if_neg (by decide)]
                grind
              · cases ea
                exact .inr ⟨rfl, k2⟩
theorem near_all {m : Mn} (hm : m = .even ∨ m = .away) {v r a b : Rat} (e : rdR m v = some r) (ea : rdR .down v = some a) (eb : rdR .up v = some b) (hr : r ≠ 0) : (r = a ∧ v - a ≤ b - v) ∨ (r = b ∧ b - v ≤ v - a) := by
  unfold rdR at e ea eb
  by_cases h0 : v = 0
  · rw [if_pos h0] at e
    cases e
    exact absurd rfl hr
  · rw [if_neg h0] at e ea eb
    have hh : ∀ c, m.by c = .even ∨ m.by c = .away := fun c => by rcases hm with rfl | rfl <;> cases c <;> first | exact .inl rfl | exact .inr rfl
    by_cases hn : v < 0
    · rw [if_pos hn] at e ea eb
      obtain ⟨r', e1, rfl⟩ := Option.map_eq_some_iff.mp e
      obtain ⟨a', ea1, rfl⟩ := Option.map_eq_some_iff.mp ea
      obtain ⟨b', eb1, rfl⟩ := Option.map_eq_some_iff.mp eb
      have hr2 : r' ≠ 0 := fun z => hr (by rw [z]; rfl)
      have hv2 : 0 < -v := by grind
      have k := near_pos (hh true) hv2 e1 eb1 ea1 hr2
      rcases k with ⟨k1, k2⟩ | ⟨k1, k2⟩
      · exact .inr ⟨by grind, by grind⟩
      · exact .inl ⟨by grind, by grind⟩
    · rw [if_neg hn] at e ea eb
      exact near_pos (hh false) (by grind) e ea eb hr
/-! no number lies between -/
theorem none_between {v : Rat} {lo hi s : Int × Int} (el : exV .down v = some lo) (eh : exV .up v = some hi) (hs : NumOk s.1 s.2) (h1 : vl lo ≤ vl s) (h2 : vl s ≤ vl hi) : s = lo ∨ s = hi := by
  have fx := fun m => exV_fix m hs
  have e : (s.1, s.2) = s := rfl
  rw [e] at fx
  by_cases q : vl s ≤ v
  · have := exV_mono q (fx .down) el
    exact .inl (num_inj hs (exV_some el).1 (by grind))
  · have := exV_mono (by grind) eh (fx .up)
    exact .inr (num_inj hs (exV_some eh).1 (by grind))
theorem in_two2 {m : Mn} {v : Rat} {lo hi s : Int × Int} (el : exV .down v = some lo) (eh : exV .up v = some hi) (es : exV m v = some s) : s = lo ∨ s = hi := by
  refine none_between el eh (exV_some es).1 ?_ ?_
  · exact exV_mono (exV_down el) (exV_fix m (exV_some el).1) es
  · exact exV_mono (exV_up eh) es (exV_fix m (exV_some eh).1)
theorem mid_two {v : Rat} {lo hi : Int × Int} (el : exV .down v = some lo) (eh : exV .up v = some hi) : ∃ s, exV .even ((vl lo + vl hi) / 2) = some s ∧ (s = lo ∨ s = hi) := by
  have hl := exV_down el
  have hh := exV_up eh
  have a1 : vl lo ≤ (vl lo + vl hi) / 2 := by grind
  have a2 : (vl lo + vl hi) / 2 ≤ vl hi := by grind
  have f1 := exV_fix .even (exV_some el).1
  have f2 := exV_fix .even (exV_some eh).1
  obtain ⟨s, hs⟩ := exV_between a1 a2 f1 f2
  exact ⟨s, hs, none_between el eh (exV_some hs).1 (exV_mono a1 f1 hs) (exV_mono a2 hs f2)⟩
theorem nought_side {v : Rat} {s : Int × Int} (h : exV .nought v = some s) : (0 ≤ v → vl s ≤ v) ∧ (v < 0 → v ≤ vl s) := by
  have e := (exV_some h).2
  unfold rdR at e
  by_cases h0 : v = 0
  · rw [if_pos h0] at e
    have e := Option.some.inj e
    exact ⟨fun _ => by grind, fun _ => by grind⟩
  · rw [if_neg h0] at e
    by_cases hn : v < 0
    · rw [if_pos hn] at e
      obtain ⟨r, e, hr⟩ := Option.map_eq_some_iff.mp e
      have := rd1_nought (by grind) e
      exact ⟨fun _ => by grind, fun _ => by grind⟩
    · rw [if_neg hn] at e
      have := rd1_nought (by grind) e
      exact ⟨fun _ => this, fun _ => by grind⟩
/-! the law's measures -/
def mL (s : Int × Int) (l : Int) : Int := s.1 * l * 10 ^ s.2.toNat
def mR (s : Int × Int) (u : Int) : Int := u * 10 ^ (-s.2).toNat
def mC (s : Int × Int) (l : Int) : Int := l * 10 ^ (-s.2).toNat
theorem max0 (b : Int) : (if (0 : Int) > b then (0 : Int) else b) = (b.toNat : Int) := by split <;> omega
theorem m_rat (s : Int × Int) {u l : Int} (hl : 0 < l) : (0 : Rat) < (mC s l : Rat) ∧ (mL s l : Rat) = (mC s l : Rat) * vl s ∧ (mR s u : Rat) = (mC s l : Rat) * ((u : Rat) / (l : Rat)) := by
  have t := T_pos ((-s.2).toNat : Int)
  have hl' : (0 : Rat) < (l : Rat) := Rat.intCast_pos.mpr hl
  have e : T s.2 * T ((-s.2).toNat : Int) = T (s.2.toNat : Int) := by rw [← T_add]; congr 1; omega
  have ec : (mC s l : Rat) = (l : Rat) * T ((-s.2).toNat : Int) := by unfold mC; rw [Rat.intCast_mul, ← T_nat]
  refine ⟨by rw [ec]; exact Rat.mul_pos hl' t, ?_, ?_⟩
  · unfold mL vl
    rw [ec, Rat.intCast_mul, Rat.intCast_mul, ← T_nat, ← e]
    grind
  · unfold mR
    rw [ec, Rat.intCast_mul, ← T_nat]
    have : (l : Rat) * ((u : Rat) / (l : Rat)) = u := by rw [Rat.mul_comm]; exact Rat.div_mul_cancel (by grind)
    grind
theorem mul_left_le {c x y : Rat} (hc : 0 < c) : c * x ≤ c * y ↔ x ≤ y := by
  constructor
  · intro h
    by_cases q : x ≤ y
    · exact q
    · have q : y < x := by grind
      have := Rat.mul_lt_mul_of_pos_left q hc
      grind
  · intro h
    have := Rat.mul_le_mul_of_nonneg_left h (Rat.le_of_lt hc)
    exact this
theorem le_m {s : Int × Int} {u l : Int} (hl : 0 < l) : (mL s l ≤ mR s u ↔ vl s ≤ (u : Rat) / (l : Rat)) ∧ (mR s u ≤ mL s l ↔ (u : Rat) / (l : Rat) ≤ vl s) := by
  obtain ⟨h1, h2, h3⟩ := m_rat s (u := u) hl
  constructor
  · rw [← Rat.intCast_le_intCast, h2, h3]
    exact mul_left_le h1
  · rw [← Rat.intCast_le_intCast, h2, h3]
    exact mul_left_le h1
theorem far_le {s t : Int × Int} {u l : Int} (hl : 0 < l) (h1 : vl s - (u : Rat) / (l : Rat) ≤ vl t - (u : Rat) / (l : Rat) ∨ vl s - (u : Rat) / (l : Rat) ≤ (u : Rat) / (l : Rat) - vl t)
    (h2 : (u : Rat) / (l : Rat) - vl s ≤ vl t - (u : Rat) / (l : Rat) ∨ (u : Rat) / (l : Rat) - vl s ≤ (u : Rat) / (l : Rat) - vl t) :
    (if mL s l - mR s u < 0 then -(mL s l - mR s u) else mL s l - mR s u) * mC t l ≤ (if mL t l - mR t u < 0 then -(mL t l - mR t u) else mL t l - mR t u) * mC s l := by
  obtain ⟨a1, a2, a3⟩ := m_rat s (u := u) hl
  obtain ⟨b1, b2, b3⟩ := m_rat t (u := u) hl
  generalize (u : Rat) / (l : Rat) = v at *
  have c1 : ((mL s l - mR s u : Int) : Rat) = (mC s l : Rat) * (vl s - v) := by rw [Rat.intCast_sub, a2, a3]; grind
  have c2 : ((mL t l - mR t u : Int) : Rat) = (mC t l : Rat) * (vl t - v) := by rw [Rat.intCast_sub, b2, b3]; grind
  generalize mL s l - mR s u = z1 at *
  generalize mL t l - mR t u = z2 at *
  have p : (0 : Rat) < (mC s l : Rat) * (mC t l : Rat) := Rat.mul_pos a1 b1
  have k1 : ((z1 * mC t l : Int) : Rat) ≤ ((if z2 < 0 then -z2 else z2) * mC s l : Int) ∧ ((-z1 * mC t l : Int) : Rat) ≤ ((if z2 < 0 then -z2 else z2) * mC s l : Int) := by
    have g : (z2 : Rat) ≤ ((if z2 < 0 then -z2 else z2 : Int) : Rat) ∧ (-(z2 : Rat)) ≤ ((if z2 < 0 then -z2 else z2 : Int) : Rat) := by
      rw [← Rat.intCast_neg]
      constructor
      · rw [Rat.intCast_le_intCast]; split <;> omega
      · rw [Rat.intCast_le_intCast]; split <;> omega
    generalize (if z2 < 0 then -z2 else z2) = A at *
    rw [Rat.intCast_mul, Rat.intCast_mul, Rat.intCast_mul, Rat.intCast_neg, c1]
    have g1 := Rat.mul_le_mul_of_nonneg_right g.1 (Rat.le_of_lt a1)
    have g2 := Rat.mul_le_mul_of_nonneg_right g.2 (Rat.le_of_lt a1)
    rw [c2] at g1 g2
    constructor
    · rcases h1 with h | h
      · have := Rat.mul_le_mul_of_nonneg_right h (Rat.le_of_lt p)
        grind
      · have := Rat.mul_le_mul_of_nonneg_right h (Rat.le_of_lt p)
        grind
    · rcases h2 with h | h
      · have := Rat.mul_le_mul_of_nonneg_right h (Rat.le_of_lt p)
        grind
      · have := Rat.mul_le_mul_of_nonneg_right h (Rat.le_of_lt p)
        grind
  rw [Rat.intCast_le_intCast, Rat.intCast_le_intCast] at k1
  split
  · exact k1.2
  · exact k1.1
theorem big_le {z : Int} {k : Nat} (h : z.natAbs < 10 ^ k) (hk : k ≤ 20000) : z.natAbs < 2 ^ 100000 := by
  have : (10 : Nat) ^ k ≤ 10 ^ 20000 := Nat.pow_le_pow_right (by decide) hk
  have h2 : (10 : Nat) ^ 20000 ≤ 16 ^ 20000 := Nat.pow_le_pow_left (by decide) _
  have h3 : (16 : Nat) ^ 20000 = 2 ^ 80000 := by rw [show (16 : Nat) = 2 ^ 4 from rfl, ← Nat.pow_mul]
  have h4 : (2 : Nat) ^ 80000 ≤ 2 ^ 100000 := Nat.pow_le_pow_right (by decide) (by decide)
  rw [h3] at h2
  exact Nat.lt_of_lt_of_le h (Nat.le_trans this (Nat.le_trans h2 h4))
theorem mul_k {a b : Int} {i j : Nat} (ha : a.natAbs < 10 ^ i) (hb : b.natAbs < 10 ^ j) (hi : i ≤ 20000) (hj : j ≤ 20000) : mulD (.int a) (.int b) = some (.int (a * b)) ∧ (a * b).natAbs < 10 ^ (i + j) := by
  refine ⟨mul_w (big_le ha hi) (big_le hb hj), ?_⟩
  rw [Int.natAbs_mul, Nat.pow_add]
  exact Nat.mul_lt_mul'' ha hb
theorem ten_k (n : Nat) : ((10 : Int) ^ n).natAbs < 10 ^ (n + 1) := by
  rw [Int.natAbs_pow, Nat.pow_succ]
  have : 0 < (10 : Nat) ^ n := Nat.pow_pos (by decide)
  show 10 ^ n < 10 ^ n * 10
  omega
section
variable {s : Int × Int} {u l : Int}
theorem x_side (hs : NO s) (hu : u.natAbs < 10 ^ 200) (hl : l.natAbs < 10 ^ 200) : d__law_side [numD s, .int u, .int l] = .ok (.int ((if decide (mR s u < mL s l) = true then 1 else 0) - (if decide (mL s l < mR s u) = true then 1 else 0))) := by
  obtain ⟨a, b⟩ := s
  have nb := num_b hs
  obtain ⟨n1, n2, n3⟩ := nb
  have t1 := x_lten (n := b.toNat) (by omega)
  have t2 := x_lten (n := (-b).toNat) (by omega)
  have m1 := mul_k (a := a) (b := l) n1 hl (by decide) (by decide)
  have m2 := mul_k (a := a * l) (b := 10 ^ b.toNat) m1.2 (ten_k _) (by decide) (by omega)
  have m3 := mul_k (a := u) (b := 10 ^ (-b).toNat) hu (ten_k _) (by decide) (by omega)
  have x1 := max0 b
  have x2 := max0 (-b)
  show d__law_side [.tup [.int a, .int b], .int u, .int l] = _
  simp?! [v__law_side, g__law_side, t1__law_side, t2__law_side, x1, x2, t1, t2, m1.1, m2.1, m3.1]
  rfl
theorem x_far (hs : NO s) (hu : u.natAbs < 10 ^ 200) (hl : l.natAbs < 10 ^ 200) : d__law_far [numD s, .int u, .int l] = .ok (.tup [.int (if mL s l - mR s u < 0 then -(mL s l - mR s u) else mL s l - mR s u), .int (mC s l)]) ∧ (mL s l - mR s u).natAbs < 10 ^ 600 ∧ (mC s l).natAbs < 10 ^ 600 := by
  obtain ⟨a, b⟩ := s
  have nb := num_b hs
  obtain ⟨n1, n2, n3⟩ := nb
  have t1 := x_lten (n := b.toNat) (by omega)
  have t2 := x_lten (n := (-b).toNat) (by omega)
  have m1 := mul_k (a := a) (b := l) n1 hl (by decide) (by decide)
  have m2 := mul_k (a := a * l) (b := 10 ^ b.toNat) m1.2 (ten_k _) (by decide) (by omega)
  have m3 := mul_k (a := u) (b := 10 ^ (-b).toNat) hu (ten_k _) (by decide) (by omega)
  have m4 := mul_k (a := l) (b := 10 ^ (-b).toNat) hl (ten_k _) (by decide) (by omega)
  have x1 := max0 b
  have x2 := max0 (-b)
  refine ⟨?_, ?_, ?_⟩
  · show d__law_far [.tup [.int a, .int b], .int u, .int l] = _
    simp?! [v__law_far, g__law_far, t1__law_far, x1, x2, t1, t2, m1.1, m2.1, m3.1, m4.1]
    rfl
  · have h1 : (a * l * 10 ^ b.toNat).natAbs < 10 ^ 500 := Nat.lt_of_lt_of_le m2.2 (pow10_le (by omega))
    have h2 : (u * 10 ^ (-b).toNat).natAbs < 10 ^ 500 := Nat.lt_of_lt_of_le m3.2 (pow10_le (by omega))
    have h3 : (10 : Nat) ^ 600 = 10 ^ 500 * 10 ^ 100 := by rw [← Nat.pow_add]
    have h4 : 2 ≤ (10 : Nat) ^ 100 := by decide
    show (a * l * 10 ^ b.toNat - u * 10 ^ (-b).toNat).natAbs < 10 ^ 600
    rw [h3]
    generalize (10 : Nat) ^ 500 = B at *
    generalize (10 : Nat) ^ 100 = E at *
    have := Nat.mul_le_mul_left B h4
    omega
  · exact Nat.lt_of_lt_of_le m4.2 (pow10_le (by omega))
theorem x_farther {t : Int × Int} (hs : NO s) (ht : NO t) (hl0 : 0 < l) (hu : u.natAbs < 10 ^ 200) (hl : l.natAbs < 10 ^ 200) (h1 : vl s - (u : Rat) / (l : Rat) ≤ vl t - (u : Rat) / (l : Rat) ∨ vl s - (u : Rat) / (l : Rat) ≤ (u : Rat) / (l : Rat) - vl t)
    (h2 : (u : Rat) / (l : Rat) - vl s ≤ vl t - (u : Rat) / (l : Rat) ∨ (u : Rat) / (l : Rat) - vl s ≤ (u : Rat) / (l : Rat) - vl t) : d__law_is_farther [numD s, numD t, .int u, .int l] = .ok (.bl false) := by
  obtain ⟨f1, f2, f3⟩ := x_far hs hu hl
  obtain ⟨g1, g2, g3⟩ := x_far ht hu hl
  have fl := far_le (s := s) (t := t) hl0 h1 h2
  have ab : ∀ z : Int, (if z < 0 then -z else z).natAbs = z.natAbs := fun z => by split <;> omega
  have m1 := mul_k (a := if mL s l - mR s u < 0 then -(mL s l - mR s u) else mL s l - mR s u) (b := mC t l) (by rw [ab]; exact f2) g3 (by decide) (by decide)
  have m2 := mul_k (a := if mL t l - mR t u < 0 then -(mL t l - mR t u) else mL t l - mR t u) (b := mC s l) (by rw [ab]; exact g2) f3 (by decide) (by decide)
  generalize (if mL s l - mR s u < 0 then -(mL s l - mR s u) else mL s l - mR s u) = A at *
  generalize (if mL t l - mR t u < 0 then -(mL t l - mR t u) else mL t l - mR t u) = B at *
  have ec : decide (B * mC s l < A * mC t l) = false := decide_eq_false (by omega)
  simp?! [v__law_is_farther, g__law_is_farther, t1__law_is_farther, t2__law_is_farther, f1, g1, m1.1, m2.1, ec]
end
/-! ### k05 -/
theorem in_num (s a b : Int × Int) (h : s = a ∨ s = b) : inD (numD s) (.tup [numD a, numD b]) = some (.bl true) ∧ niD (numD s) (.tup [numD a, numD b]) = some (.bl false) := by
  obtain ⟨s1, s2⟩ := s
  obtain ⟨a1, a2⟩ := a
  obtain ⟨b1, b2⟩ := b
  have e : DN.inB (numD (s1, s2)) (.tup [numD (a1, a2), numD (b1, b2)]) = some (((a1 == s1) && ((a2 == s2) && true)) || (((b1 == s1) && ((b2 == s2) && true)) || false)) := by kernel_rfl
  have q : (((a1 == s1) && ((a2 == s2) && true)) || (((b1 == s1) && ((b2 == s2) && true)) || false)) = true := by
    rcases h with h | h <;> cases h <;> simp
  rw [q] at e
  constructor
  · show (DN.inB _ _).map D.bl = _
    rw [e]; rfl
  · show (DN.inB _ _).map (fun b => D.bl (!b)) = _
    rw [e]; rfl
def kd (z : Option (Int × Int)) : Str := match z with
  | none => "refused"
  | some _ => "told"
theorem tv_0 (z : Option (Int × Int)) : ixD (tv z) (.int 0) = some (.str (kd z)) := by
  cases z with
  | none => rfl
  | some s => rfl
abbrev R05 (ns : List Int) (u l : Int) (so mm op x y c d e f g h : En) : Rho := [.z (.arr ns), .z (.int u), .z (.int l), so, mm, op, x, y, c, d, e, f, g, h]
theorem b3_05 {ns : List Int} {u l : Int} {so mm op c d e f g h : En} {z : Option (Int × Int)} (hz : ∀ s, z = some s → NO s) : b3_law (R05 ns u l so mm op (.z (tv z)) (.z (tv (z.map neg1))) c d e f g h) = .nx (R05 ns u l so mm op (.z (tv z)) (.z (tv (z.map neg1))) c d e f g h) := by
  cases z with
  | none => kernel_rfl
  | some s =>
    obtain ⟨a, b⟩ := s
    have ln := x_lisnum (hz _ rfl)
    have ln : d__law_is_number [.tup [.int a, .int b]] = .ok (.bl true) := ln
    have n1 := ne_same (d := .tup [.int (-a), .int b]) rfl
    have e1 : (Str.ofString "told" == Str.ofString "refused") = false := by decide +kernel
    have t1 : tv (some (a, b)) = .tup [.str "told", .tup [.int a, .int b]] := rfl
    have t2 : tv ((some (a, b)).map neg1) = .tup [.str "told", .tup [.int (-a), .int b]] := rfl
    rw [t1, t2]
    simp?! [b3_law, R05, beq_self_eq_true, e1, ln, n1]
theorem in_anyL5 {ss : List Str} {x : Str} : inD (.str x) (.lst (ss.map D.str)) = some (.bl (ss.any (· == x))) := by
  have key : DN.inL (.str x) (ss.map D.str) = some (ss.any (· == x)) := by
    unfold DN.inL
    rw [if_pos]
    · congr 1
      rw [List.any_map]
      rfl
    · rw [List.all_map]
      simp [DN.flatD]
  show (DN.inL (.str x) (ss.map D.str)).map D.bl = _
  rw [key]; rfl
theorem its_L5 {f : Rho → Res D} {ds : List D} {ρ : Rho} (h : f ρ = .ok (.lst ds)) : its f ρ = .ok ds := by
  unfold its; rw [h]; rfl
theorem div_neg_iff {u l : Int} (hl : 0 < l) : ((u : Rat) / (l : Rat) < 0) ↔ u < 0 := by
  have hl' : (0 : Rat) < (l : Rat) := Rat.intCast_pos.mpr hl
  rw [Rat.div_lt_iff hl', Rat.zero_mul, ← Rat.intCast_zero, Rat.intCast_lt_intCast]
theorem vl_ne {s : Int × Int} (h : s.1 ≠ 0) : vl s ≠ 0 := by
  intro z
  unfold vl at z
  have t := T_pos s.2
  rcases Rat.mul_eq_zero.mp z with q | q
  · exact h (by rw [← Rat.intCast_zero] at q; exact Rat.intCast_inj.mp q)
  · grind
theorem b6_05 {ns : List Int} {u l : Int} {so mm op y nr ev aw bt : En} {lo hi s : Int × Int} {m : Mn} (hm : m = .even ∨ m = .away) (hl0 : 0 < l) (hu : u.natAbs < 10 ^ 200) (hl : l.natAbs < 10 ^ 200)
    (el : exV .down ((u : Rat) / (l : Rat)) = some lo) (eh : exV .up ((u : Rat) / (l : Rat)) = some hi) (es : exV m ((u : Rat) / (l : Rat)) = some s) :
    b6_law (R05 ns u l so mm op (.z (numD s)) y (.z (numD lo)) (.z (numD hi)) nr ev aw bt) = .nx (R05 ns u l so mm op (.z (numD s)) y (.z (numD lo)) (.z (numD hi)) nr ev aw bt) := by
  have i1 := (in_num s lo hi (in_two2 el eh es)).2
  have nl := (exV_some el)
  have nh := (exV_some eh)
  have nn := (exV_some es)
  have dl := exV_down el
  have dh := exV_up eh
  have ix : ixD (numD s) (.int 0) = some (.int s.1) := rfl
  by_cases q : s.1 = 0
  · have ne : neD (.int s.1) (.int 0) = some (.bl false) := by rw [ne_ii, q]; rfl
    simp?! [b6_law, R05, i1, ix, ne]
  · have ne : neD (.int s.1) (.int 0) = some (.bl true) := by
      rw [ne_ii, show (s.1 == 0) = false by simpa using q]; rfl
    have k := near_all hm nn.2 nl.2 nh.2 (vl_ne q)
    have f1 : d__law_is_farther [numD s, numD lo, .int u, .int l] = .ok (.bl false) := by
      refine x_farther nn.1 nl.1 hl0 hu hl ?_ ?_
      · rcases k with ⟨k1, k2⟩ | ⟨k1, k2⟩
        · exact .inl (by rw [k1]; exact Rat.le_refl)
        · exact .inr (by rw [k1]; exact k2)
      · rcases k with ⟨k1, k2⟩ | ⟨k1, k2⟩
        · exact .inr (by rw [k1]; exact Rat.le_refl)
        · exact .inr (by grind)
    have f2 : d__law_is_farther [numD s, numD hi, .int u, .int l] = .ok (.bl false) := by
      refine x_farther nn.1 nh.1 hl0 hu hl ?_ ?_
      · rcases k with ⟨k1, k2⟩ | ⟨k1, k2⟩
        · exact .inl (by grind)
        · exact .inl (by rw [k1]; exact Rat.le_refl)
      · rcases k with ⟨k1, k2⟩ | ⟨k1, k2⟩
        · exact .inl (by rw [k1]; exact k2)
        · exact .inr (by rw [k1]; exact Rat.le_refl)
    simp?! [b6_law, R05, i1, ix, ne, f1, f2]
def mns : List Mn := [.down, .up, .nought, .even, .away]
theorem told_05 {ns : List Int} {u l : Int} {so op x y c d e f g h : En} (m : Mn) (hl0 : 0 < l) (hu : u.natAbs < 10 ^ 200) (hl : l.natAbs < 10 ^ 200) :
    e1_law (R05 ns u l so (.z (.str m.s)) op x y c d e f g h) = .ok (tv (exV m ((u : Rat) / (l : Rat)))) ∧ e2_law (R05 ns u l so (.z (.str m.turn.s)) op x y c d e f g h) = .ok (tv ((exV m ((u : Rat) / (l : Rat))).map neg1)) := by
  have h0 : l ≠ 0 := by omega
  have e1 := x_exact m h0 hu hl
  have e2 := x_exact m.turn (u := -u) h0 (by rw [Int.natAbs_neg]; exact hu) hl
  rw [ex_neg m h0] at e2
  rw [ex_V m h0] at e1 e2
  constructor
  · simp?! [e1_law, R05, told_def, e1, told_opt]
  · simp?! [e2_law, R05, told_def, e2, told_opt]
theorem law_true (ns : List Int) (h : ns.length ≤ 63) (hz : ∀ z ∈ ns, Builtin.Int.intBits z ≤ 1048576) : d_law [.arr ns] = .ok (.bl true) := by
  obtain ⟨u0, l0, f1, f2, f3, f4⟩ := x_fraction (ns := ns) (k := 0) (by omega) (by omega)
  have key : ∃ u l : Int, 0 < l ∧ u.natAbs < 10 ^ 200 ∧ l.natAbs < 10 ^ 200 ∧ d_law [.arr ns] = finR (t2_law (R05 ns u l .u .u .u .u .u .u .u .u .u .u .u)) := by
    by_cases c : l0 < 0
    · have ec : decide (l0 < 0) = true := decide_eq_true c
      exact ⟨-u0, -l0, by omega, by rw [Int.natAbs_neg]; exact f3, by rw [Int.natAbs_neg]; exact f4, by simp?! [v_law, g_law, t1_law, f1, ec]⟩
    · have ec : decide (l0 < 0) = false := decide_eq_false c
      exact ⟨u0, l0, by omega, f3, f4, by simp?! [v_law, g_law, t1_law, f1, ec]⟩
  clear f1 f2 f3 f4
  obtain ⟨u, l, hl0, hu, hl, key⟩ := key
  rw [key]
  have td := fun (m : Mn) (so op x y c d e f g h : En) => told_05 (ns := ns) (u := u) (l := l) (so := so) (op := op) (x := x) (y := y) (c := c) (d := d) (e := e) (f := f) (g := g) (h := h) m hl0 hu hl
  have oks : ∀ m s, exV m ((u : Rat) / (l : Rat)) = some s → NO s := fun m s q => (exV_some q).1
  have z2 := div_neg_iff (u := u) hl0
  obtain ⟨v, hv⟩ : ∃ v : Rat, v = (u : Rat) / (l : Rat) := ⟨_, rfl⟩
  have lc1 : lcD (its (mkT (acons (con (.str "down")) (acons (con (.str "up")) (acons (con (.str "nought")) (acons (con (.str "even")) (acons (con (.str "away")) anil))))))) 4 yes e1_law (R05 ns u l .u .u .u .u .u .u .u .u .u .u .u) = .ok (.lst (mns.map fun m => tv (exV m ((u : Rat) / (l : Rat))))) := by
    refine lc_eq (ds := mns.map fun m => D.str m.s) (by kernel_rfl) (by simp [mns]) ?_
    have g : ∀ (ms : List Mn), compD (gn 4) yes e1_law (R05 ns u l .u .u .u .u .u .u .u .u .u .u .u) (ms.map fun m => D.str m.s) = .ok (ms.map fun m => tv (exV m ((u : Rat) / (l : Rat)))) := by
      intro ms
      induction ms with
      | nil => rfl
      | cons m ms ih => exact comp_t (show gn 4 _ _ = some (R05 ns u l .u (.z (.str m.s)) .u .u .u .u .u .u .u .u .u) from rfl) rfl (td m .u .u .u .u .u .u .u .u .u .u).1 ih
    exact g mns
  have lc2 : ∀ so : En, lcD (its (mkT (acons (con (.str "up")) (acons (con (.str "down")) (acons (con (.str "nought")) (acons (con (.str "even")) (acons (con (.str "away")) anil))))))) 4 yes e2_law (R05 ns u l so .u .u .u .u .u .u .u .u .u .u) = .ok (.lst (mns.map fun m => tv ((exV m ((u : Rat) / (l : Rat))).map neg1))) := by
    intro so
    refine lc_eq (ds := mns.map fun m => D.str m.turn.s) (by kernel_rfl) (by simp [mns]) ?_
    have g : ∀ (ms : List Mn), compD (gn 4) yes e2_law (R05 ns u l so .u .u .u .u .u .u .u .u .u .u) (ms.map fun m => D.str m.turn.s) = .ok (ms.map fun m => tv ((exV m ((u : Rat) / (l : Rat))).map neg1)) := by
      intro ms
      induction ms with
      | nil => rfl
      | cons m ms ih => exact comp_t (show gn 4 _ _ = some (R05 ns u l so (.z (.str m.turn.s)) .u .u .u .u .u .u .u .u .u) from rfl) rfl (td m so .u .u .u .u .u .u .u .u .u).2 ih
    exact g mns
  obtain ⟨so, hso⟩ : ∃ so : D, so = .lst (mns.map fun m => tv (exV m ((u : Rat) / (l : Rat)))) := ⟨_, rfl⟩
  obtain ⟨op, hop⟩ : ∃ op : D, op = .lst (mns.map fun m => tv ((exV m ((u : Rat) / (l : Rat))).map neg1)) := ⟨_, rfl⟩
  rw [← hso] at lc1
  have lc2 := lc2 (.z so)
  rw [← hop] at lc2
  have zp : zipI (acons (var 3) (acons (var 5) anil)) (R05 ns u l (.z so) .u (.z op) .u .u .u .u .u .u .u .u) = .ok (mns.map fun m => .tup [tv (exV m ((u : Rat) / (l : Rat))), tv ((exV m ((u : Rat) / (l : Rat))).map neg1)]) := by
    unfold zipI
    rw [show acons (var 3) (acons (var 5) anil) (R05 ns u l (.z so) .u (.z op) .u .u .u .u .u .u .u .u) = .ok [so, op] from rfl, hso, hop]
    rfl
  have lp : ∀ (ms : List Mn) (x y : En), ∃ x' y', loopD (gt 2 (gsc (gn 6) (gsc (gn 7) gsn))) b3_law (ms.map fun m => .tup [tv (exV m ((u : Rat) / (l : Rat))), tv ((exV m ((u : Rat) / (l : Rat))).map neg1)]) (R05 ns u l (.z so) .u (.z op) x y .u .u .u .u .u .u) = .nx (R05 ns u l (.z so) .u (.z op) x' y' .u .u .u .u .u .u) := by
    intro ms
    induction ms with
    | nil => exact fun x y => ⟨x, y, rfl⟩
    | cons m ms ih =>
      intro x y
      obtain ⟨x', y', ih⟩ := ih (.z (tv (exV m ((u : Rat) / (l : Rat))))) (.z (tv ((exV m ((u : Rat) / (l : Rat))).map neg1)))
      refine ⟨x', y', ?_⟩
      rw [List.map_cons, loop_cons (ρ1 := R05 ns u l (.z so) .u (.z op) (.z (tv (exV m ((u : Rat) / (l : Rat))))) (.z (tv ((exV m ((u : Rat) / (l : Rat))).map neg1))) .u .u .u .u .u .u) rfl (b3_05 (oks m)), ih]
  obtain ⟨x', y', lp⟩ := lp mns .u .u
  have key2 : finR (t2_law (R05 ns u l .u .u .u .u .u .u .u .u .u .u .u)) = finR (t5_law (R05 ns u l (.z so) .u (.z op) x' y' .u .u .u .u .u .u)) := by
    unfold t2_law
    rw [sseq_def, sasg_def, lc1, asgR_n, seqR_nx]
    show finR (t3_law (R05 ns u l (.z so) .u .u .u .u .u .u .u .u .u .u)) = _
    unfold t3_law
    rw [sseq_def, sasg_def, lc2, asgR_n, seqR_nx]
    show finR (t4_law (R05 ns u l (.z so) .u (.z op) .u .u .u .u .u .u .u .u)) = _
    unfold t4_law
    rw [sseq_def, sfor_def, zp, forR_ok, lp, seqR_nx]
  rw [key2]
  have it := its_L5 (f := var 3) (ds := mns.map fun m => tv (exV m ((u : Rat) / (l : Rat)))) (ρ := R05 ns u l (.z so) .u (.z op) x' y' .u .u .u .u .u .u) (by rw [← hso]; rfl)
  have lc4 : lcD (its (var 3)) 6 yes e4_law (R05 ns u l (.z so) .u (.z op) x' y' .u .u .u .u .u .u) = .ok (.lst ((mns.map fun m => kd (exV m ((u : Rat) / (l : Rat)))).map D.str)) := by
    refine lc_eq it (by simp [mns]) ?_
    have g : ∀ (ms : List Mn), compD (gn 6) yes e4_law (R05 ns u l (.z so) .u (.z op) .u y' .u .u .u .u .u .u) (ms.map fun m => tv (exV m ((u : Rat) / (l : Rat)))) = .ok ((ms.map fun m => kd (exV m ((u : Rat) / (l : Rat)))).map D.str) := by
      intro ms
      induction ms with
      | nil => rfl
      | cons m ms ih =>
        refine comp_t (show gn 6 _ _ = some (R05 ns u l (.z so) .u (.z op) (.z (tv (exV m ((u : Rat) / (l : Rat))))) y' .u .u .u .u .u .u) from rfl) rfl ?_ ih
        have t0 := tv_0 (exV m ((u : Rat) / (l : Rat)))
        simp?! [e4_law, R05, t0]
    exact g mns
  have in4 := in_anyL5 (ss := mns.map fun m => kd (exV m ((u : Rat) / (l : Rat)))) (x := Str.ofString "refused")
  by_cases c : (mns.map fun m => kd (exV m ((u : Rat) / (l : Rat)))).any (· == Str.ofString "refused") = true
  · rw [c] at in4
    unfold t5_law
    rw [sseq_def, sif_def, tst_def, bin_def, con_def, lc4, app2_ok, in4, ofO_some, tstR_ok, ifR_t]
    rfl
  · have c : (mns.map fun m => kd (exV m ((u : Rat) / (l : Rat)))).any (· == Str.ofString "refused") = false := by simpa using c
    rw [c] at in4
    have all : ∀ m ∈ mns, ∃ s, exV m ((u : Rat) / (l : Rat)) = some s := by
      intro m hm
      cases e : exV m ((u : Rat) / (l : Rat)) with
      | some s => exact ⟨s, rfl⟩
      | none =>
        rw [List.any_eq_false] at c
        have := c (kd none) (List.mem_map.mpr ⟨m, hm, by rw [e]⟩)
        exact absurd (by decide +kernel) this
    obtain ⟨lo, el⟩ := all .down (by simp [mns])
    obtain ⟨hi, eh⟩ := all .up (by simp [mns])
    obtain ⟨nr, en⟩ := all .nought (by simp [mns])
    obtain ⟨ev, ee⟩ := all .even (by simp [mns])
    obtain ⟨aw, ea⟩ := all .away (by simp [mns])
    have lc5 : lcD (its (var 3)) 6 yes e5_law (R05 ns u l (.z so) .u (.z op) x' y' .u .u .u .u .u .u) = .ok (.lst [numD lo, numD hi, numD nr, numD ev, numD aw]) := by
      refine lc_eq it (by simp [mns]) ?_
      have st : ∀ (s : Int × Int), e5_law (R05 ns u l (.z so) .u (.z op) (.z (tv (some s))) y' .u .u .u .u .u .u) = .ok (numD s) := fun s => by kernel_rfl
      have hd : (mns.map fun m => tv (exV m ((u : Rat) / (l : Rat)))) = [tv (some lo), tv (some hi), tv (some nr), tv (some ev), tv (some aw)] := by
        show [tv _, tv _, tv _, tv _, tv _] = _
        rw [el, eh, en, ee, ea]
      rw [hd]
      exact comp_t (show gn 6 _ _ = some (R05 ns u l (.z so) .u (.z op) (.z (tv (some lo))) y' .u .u .u .u .u .u) from rfl) rfl (st lo)
        (comp_t (show gn 6 _ _ = some (R05 ns u l (.z so) .u (.z op) (.z (tv (some hi))) y' .u .u .u .u .u .u) from rfl) rfl (st hi)
        (comp_t (show gn 6 _ _ = some (R05 ns u l (.z so) .u (.z op) (.z (tv (some nr))) y' .u .u .u .u .u .u) from rfl) rfl (st nr)
        (comp_t (show gn 6 _ _ = some (R05 ns u l (.z so) .u (.z op) (.z (tv (some ev))) y' .u .u .u .u .u .u) from rfl) rfl (st ev)
        (comp_t (show gn 6 _ _ = some (R05 ns u l (.z so) .u (.z op) (.z (tv (some aw))) y' .u .u .u .u .u .u) from rfl) rfl (st aw) rfl))))
    have key3 : finR (t5_law (R05 ns u l (.z so) .u (.z op) x' y' .u .u .u .u .u .u)) = finR (t7_law (R05 ns u l (.z so) .u (.z op) x' y' (.z (numD lo)) (.z (numD hi)) (.z (numD nr)) (.z (numD ev)) (.z (numD aw)) .u)) := by
      unfold t5_law
      rw [sseq_def, sif_def, tst_def, bin_def, con_def, lc4, app2_ok, in4, ofO_some, tstR_ok, ifR_f, sskip_def, seqR_nx]
      unfold t6_law
      rw [sseq_def, sasg_def, lc5]
      rfl
    rw [key3]
    have nl := exV_some el
    have nh := exV_some eh
    have nn := exV_some en
    have s1 := x_side nl.1 hu hl
    have s2 := x_side nh.1 hu hl
    have s3 := x_side nn.1 hu hl
    have l1 := (le_m (s := lo) (u := u) hl0).1.mpr (exV_down el)
    have l2 := (le_m (s := hi) (u := u) hl0).2.mpr (exV_up eh)
    have d1 : decide (mR lo u < mL lo l) = false := decide_eq_false (by omega)
    have d2 : decide (mL hi l < mR hi u) = false := decide_eq_false (by omega)
    rw [d1] at s1
    rw [d2] at s2
    have g1 : decide ((0 : Int) < (if false = true then 1 else 0) - (if decide (mL lo l < mR lo u) = true then 1 else 0)) = false := decide_eq_false (by simp only [Bool.false_eq_true, if_false]; split <;> omega)
    have g2 : decide ((if decide (mR hi u < mL hi l) = true then 1 else 0) - (if false = true then 1 else 0) < (0 : Int)) = false := decide_eq_false (by simp only [Bool.false_eq_true, if_false]; split <;> omega)
    have key4 : finR (t7_law (R05 ns u l (.z so) .u (.z op) x' y' (.z (numD lo)) (.z (numD hi)) (.z (numD nr)) (.z (numD ev)) (.z (numD aw)) .u)) = finR (t8_law (R05 ns u l (.z so) .u (.z op) x' y' (.z (numD lo)) (.z (numD hi)) (.z (numD nr)) (.z (numD ev)) (.z (numD aw)) .u)) := by
      simp?! [t7_law, R05, s1, s2, g1, g2]
    rw [key4]
    have key5 : finR (t8_law (R05 ns u l (.z so) .u (.z op) x' y' (.z (numD lo)) (.z (numD hi)) (.z (numD nr)) (.z (numD ev)) (.z (numD aw)) .u)) = finR (t9_law (R05 ns u l (.z so) .u (.z op) x' y' (.z (numD lo)) (.z (numD hi)) (.z (numD nr)) (.z (numD ev)) (.z (numD aw)) .u)) := by
      have ns2 := nought_side en
      by_cases cu : u < 0
      · have ec : decide (u < 0) = true := decide_eq_true cu
        have l3 := (le_m (s := nr) (u := u) hl0).2.mpr (ns2.2 (z2.mpr cu))
        have d3 : decide (mL nr l < mR nr u) = false := decide_eq_false (by omega)
        rw [d3] at s3
        obtain ⟨q, hq⟩ : ∃ q : Int, q = (if decide (mR nr u < mL nr l) = true then 1 else 0) - (if false = true then 1 else 0) := ⟨_, rfl⟩
        have hq2 : 0 ≤ q ∧ q ≤ 1 := by rw [hq]; simp only [Bool.false_eq_true, if_false]; split <;> omega
        rw [← hq] at s3
        have m1 : mulD (.int q) (.int (1 - 2 * 1)) = some (.int (q * (1 - 2 * 1))) := mul_l (by omega)
        have g3 : decide ((0 : Int) < q * (1 - 2 * 1)) = false := decide_eq_false (by omega)
        simp?! [t8_law, R05, s3, ec, if_true, m1, g3]
      · have ec : decide (u < 0) = false := decide_eq_false cu
        have l3 := (le_m (s := nr) (u := u) hl0).1.mpr (ns2.1 (by
          have : ¬ ((u : Rat) / (l : Rat) < 0) := fun z => cu (z2.mp z)
          grind))
        have d3 : decide (mR nr u < mL nr l) = false := decide_eq_false (by omega)
        rw [d3] at s3
        obtain ⟨q, hq⟩ : ∃ q : Int, q = (if false = true then 1 else 0) - (if decide (mL nr l < mR nr u) = true then 1 else 0) := ⟨_, rfl⟩
        have hq2 : -1 ≤ q ∧ q ≤ 0 := by rw [hq]; simp only [Bool.false_eq_true, if_false]; split <;> omega
        rw [← hq] at s3
        have m1 : mulD (.int q) (.int (1 - 2 * 0)) = some (.int (q * (1 - 2 * 0))) := mul_l (by omega)
        have g3 : decide ((0 : Int) < q * (1 - 2 * 0)) = false := decide_eq_false (by omega)
        simp?! [t8_law, R05, s3, ec, if_false, Bool.false_eq_true, m1, g3]
    rw [key5]
    have lp6 : loopD (gn 6) b6_law [numD ev, numD aw] (R05 ns u l (.z so) .u (.z op) x' y' (.z (numD lo)) (.z (numD hi)) (.z (numD nr)) (.z (numD ev)) (.z (numD aw)) .u) = .nx (R05 ns u l (.z so) .u (.z op) (.z (numD aw)) y' (.z (numD lo)) (.z (numD hi)) (.z (numD nr)) (.z (numD ev)) (.z (numD aw)) .u) := by
      rw [loop_cons (ρ1 := R05 ns u l (.z so) .u (.z op) (.z (numD ev)) y' (.z (numD lo)) (.z (numD hi)) (.z (numD nr)) (.z (numD ev)) (.z (numD aw)) .u) rfl (b6_05 (.inl rfl) hl0 hu hl el eh ee),
        loop_cons (ρ1 := R05 ns u l (.z so) .u (.z op) (.z (numD aw)) y' (.z (numD lo)) (.z (numD hi)) (.z (numD nr)) (.z (numD ev)) (.z (numD aw)) .u) rfl (b6_05 (.inr rfl) hl0 hu hl el eh ea)]
      rfl
    have it6 := its_T (f := mkT (acons (var 11) (acons (var 12) anil))) (ds := [numD ev, numD aw]) (ρ := R05 ns u l (.z so) .u (.z op) x' y' (.z (numD lo)) (.z (numD hi)) (.z (numD nr)) (.z (numD ev)) (.z (numD aw)) .u) (by simp?! [R05])
    have i7 := (in_num nr lo hi (in_two2 el eh en)).2
    obtain ⟨md, m1, m2⟩ := mid_two el eh
    have i8 := (in_num md lo hi m2).1
    have ex : callD 3 d_exact (acons (bop addD (bop mulD (bop ixD (var 8) (con (.int 0))) (callD 1 d__law_ten (acons (bop addD (bop ixD (var 8) (con (.int 1))) (con (.int 50))) anil))) (bop mulD (bop ixD (var 9) (con (.int 0))) (callD 1 d__law_ten (acons (bop addD (bop ixD (var 9) (con (.int 1))) (con (.int 50))) anil)))) (acons (bop mulD (con (.int 2)) (callD 1 d__law_ten (acons (con (.int 50)) anil))) (acons (con (.str "even")) anil))) (R05 ns u l (.z so) .u (.z op) (.z (numD aw)) y' (.z (numD lo)) (.z (numD hi)) (.z (numD nr)) (.z (numD ev)) (.z (numD aw)) .u) = .ok (numD md) := by
      obtain ⟨a, b⟩ := lo
      obtain ⟨p, q⟩ := hi
      obtain ⟨b1, b2, b3⟩ := num_b nl.1
      obtain ⟨c1, c2, c3⟩ := num_b nh.1
      simp only at b1 b2 b3 c1 c2 c3
      have t1 := x_ltenZ (k := b + 50) (by omega) (by omega)
      have t2 := x_ltenZ (k := q + 50) (by omega) (by omega)
      have t3 := x_ltenZ (k := 50) (by decide) (by decide)
      have k1 := mul_k (a := a) (b := 10 ^ (b + 50).toNat) b1 (ten_k _) (by decide) (by omega)
      have k2 := mul_k (a := p) (b := 10 ^ (q + 50).toNat) c1 (ten_k _) (by decide) (by omega)
      have k3 : mulD (.int 2) (.int (10 ^ (50 : Int).toNat)) = some (.int (2 * 10 ^ (50 : Int).toNat)) := mul_l (by decide)
      have h1 : (a * 10 ^ (b + 50).toNat).natAbs < 10 ^ 150 := Nat.lt_of_lt_of_le k1.2 (pow10_le (by omega))
      have h2 : (p * 10 ^ (q + 50).toNat).natAbs < 10 ^ 150 := Nat.lt_of_lt_of_le k2.2 (pow10_le (by omega))
      have h3 : (a * 10 ^ (b + 50).toNat + p * 10 ^ (q + 50).toNat).natAbs < 10 ^ 200 := by
        have h4 : (10 : Nat) ^ 200 = 10 ^ 150 * 10 ^ 50 := by rw [← Nat.pow_add]
        have h5 : 2 ≤ (10 : Nat) ^ 50 := by decide
        rw [h4]
        generalize (10 : Nat) ^ 150 = B at *
        generalize (10 : Nat) ^ 50 = E at *
        have := Nat.mul_le_mul_left B h5
        omega
      have xe := x_exact .even (u := a * 10 ^ (b + 50).toNat + p * 10 ^ (q + 50).toNat) (l := 2 * 10 ^ (50 : Int).toNat) (by decide) h3 (by decide)
      rw [ex_V .even (by decide)] at xe
      have val : (((a * 10 ^ (b + 50).toNat + p * 10 ^ (q + 50).toNat : Int)) : Rat) / ((2 * 10 ^ (50 : Int).toNat : Int) : Rat) = (vl (a, b) + vl (p, q)) / 2 := by
        have v1 := vl_at (a := a) (b := b) (p := -50) (by omega)
        have v2 := vl_at (a := p) (b := q) (p := -50) (by omega)
        rw [show b - -50 = b + 50 by omega] at v1
        rw [show q - -50 = q + 50 by omega] at v2
        have tn := T_neg 50
        have t50 : ((10 ^ (50 : Int).toNat : Int) : Rat) = T 50 := (T_nat 50).symm
        have tp := T_pos 50
        rw [v1, v2, Rat.intCast_add, Rat.intCast_mul 2, t50]
        generalize ((a * 10 ^ (b + 50).toNat : Int) : Rat) = A at *
        generalize ((p * 10 ^ (q + 50).toNat : Int) : Rat) = B at *
        have t2 : ((2 : Int) : Rat) = 2 := rfl
        rw [t2]
        generalize T 50 = t at *
        generalize T (-50) = t' at *
        have h2t : (0 : Rat) < 2 * t := by grind
        have g : (A * t' + B * t') / 2 * (2 * t) = A + B := by grind
        rw [← g]
        exact Rat.mul_div_cancel (by grind)
      rw [val, m1] at xe
      have xe : d_exact [.int (a * 10 ^ (b + 50).toNat + p * 10 ^ (q + 50).toNat), .int (2 * 10 ^ (50 : Int).toNat), .str "even"] = .ok (numD md) := xe
      have eD : ∀ a b : Int, numD (a, b) = .tup [.int a, .int b] := fun _ _ => rfl
      simp?! [R05, eD, t1, t2, t3, k1.1, k2.1, k3, xe]
    unfold t9_law
    rw [sseq_def, sfor_def, it6, forR_ok, lp6, seqR_nx]
    unfold t10_law
    have c10 : tst (bop niD (var 10) (mkT (acons (var 8) (acons (var 9) anil)))) (R05 ns u l (.z so) .u (.z op) (.z (numD aw)) y' (.z (numD lo)) (.z (numD hi)) (.z (numD nr)) (.z (numD ev)) (.z (numD aw)) .u) = .ok false := by simp?! [R05, i7]
    rw [sseq_def, sif_def, c10, ifR_f, sskip_def, seqR_nx]
    unfold t11_law
    rw [sseq_def, sasg_def, ex, asgR_n, seqR_nx]
    show finR (t12_law (R05 ns u l (.z so) .u (.z op) (.z (numD aw)) y' (.z (numD lo)) (.z (numD hi)) (.z (numD nr)) (.z (numD ev)) (.z (numD aw)) (.z (numD md)))) = _
    simp?! [t12_law, R05, i8]
def dd_ten : He.DefD := ⟨("ten", none), "ten", "ten", defArgs s_ten, defBody s_ten, defScope s_ten, [], []⟩
def dd_figures_of : He.DefD := ⟨("figures_of", none), "figures_of", "figures_of", defArgs s_figures_of, defBody s_figures_of, defScope s_figures_of, [], []⟩
def dd_height : He.DefD := ⟨("height", none), "height", "height", defArgs s_height, defBody s_height, defScope s_height, [], []⟩
def dd_taken : He.DefD := ⟨("taken", none), "taken", "taken", defArgs s_taken, defBody s_taken, defScope s_taken, [], []⟩
def dd_by_size : He.DefD := ⟨("by_size", none), "by_size", "by_size", defArgs s_by_size, defBody s_by_size, defScope s_by_size, [], []⟩
def dd_fitted : He.DefD := ⟨("fitted", none), "fitted", "fitted", defArgs s_fitted, defBody s_fitted, defScope s_fitted, [], []⟩
def dd_power_for : He.DefD := ⟨("power_for", none), "power_for", "power_for", defArgs s_power_for, defBody s_power_for, defScope s_power_for, [], []⟩
def dd_exact : He.DefD := ⟨("exact", none), "exact", "exact", defArgs s_exact, defBody s_exact, defScope s_exact, [], []⟩
def dd__law_cell_at : He.DefD := ⟨("_law_cell_at", none), "_law_cell_at", "_law_cell_at", defArgs s__law_cell_at, defBody s__law_cell_at, defScope s__law_cell_at, [], []⟩
def dd__law_mixed : He.DefD := ⟨("_law_mixed", none), "_law_mixed", "_law_mixed", defArgs s__law_mixed, defBody s__law_mixed, defScope s__law_mixed, [], []⟩
def dd__law_ten : He.DefD := ⟨("_law_ten", none), "_law_ten", "_law_ten", defArgs s__law_ten, defBody s__law_ten, defScope s__law_ten, [], []⟩
def dd__law_height : He.DefD := ⟨("_law_height", none), "_law_height", "_law_height", defArgs s__law_height, defBody s__law_height, defScope s__law_height, [], []⟩
def dd__law_is_number : He.DefD := ⟨("_law_is_number", none), "_law_is_number", "_law_is_number", defArgs s__law_is_number, defBody s__law_is_number, defScope s__law_is_number, [], []⟩
def dd__law_told : He.DefD := ⟨("_law_told", none), "_law_told", "_law_told", defArgs s__law_told, defBody s__law_told, defScope s__law_told, [], []⟩
def dd__law_fraction : He.DefD := ⟨("_law_fraction", none), "_law_fraction", "_law_fraction", defArgs s__law_fraction, defBody s__law_fraction, defScope s__law_fraction, [], []⟩
def dd__law_side : He.DefD := ⟨("_law_side", none), "_law_side", "_law_side", defArgs s__law_side, defBody s__law_side, defScope s__law_side, [], []⟩
def dd__law_far : He.DefD := ⟨("_law_far", none), "_law_far", "_law_far", defArgs s__law_far, defBody s__law_far, defScope s__law_far, [], []⟩
def dd__law_is_farther : He.DefD := ⟨("_law_is_farther", none), "_law_is_farther", "_law_is_farther", defArgs s__law_is_farther, defBody s__law_is_farther, defScope s__law_is_farther, [], []⟩
def dd_law : He.DefD := ⟨("law", none), "law", "law", defArgs s_law, defBody s_law, defScope s_law, [], []⟩
def fn : List He.DefD := [dd_ten, dd_figures_of, dd_height, dd_taken, dd_by_size, dd_fitted, dd_power_for, dd_exact, dd__law_cell_at, dd__law_mixed, dd__law_ten, dd__law_height, dd__law_is_number, dd__law_told, dd__law_fraction, dd__law_side, dd__law_far, dd__law_is_farther, dd_law]
def fa : List He.Fa := [.glo "ten", .glo "figures_of", .glo "height", .glo "taken", .glo "by_size", .glo "fitted", .glo "power_for", .glo "exact", .glo "_law_cell_at", .glo "_law_mixed", .glo "_law_ten", .glo "_law_height", .glo "_law_is_number", .glo "_law_told", .glo "_law_fraction", .glo "_law_side", .glo "_law_far", .glo "_law_is_farther", .glo "law", .free "int", .free "abs", .free "str", .free "len", .free "max", .free "range", .free "tuple", .free "isinstance", .free "bool", .free "zip", .int "HIGHEST" (40), .int "MOST" (8), .glo "TooGreat", .exc "TooGreat", .glo "NoText", .glo "NoDeed", .glo "NoKey", .glo "NoRoom", .glo "PileError", .free "ValueError"]
def ts : List He.Tab := []
def tf : List He.Defn := [("law", none)]
def ex (K : PySem.W.Frag) : Bool := (toldB K && (huB K "law" && true))
abbrev R : PySem.W.OpenRow := PySem.W.OpenLaw.row PySem.Challenge.rw_pocketpile_k05_whole_nearest
abbrev hk : PySem.W.Hook := He.hookX 5 fa fn ts tf ex
def ob (s : PySem.W.SharedT) : He.AlX := He.obsX 5 fa fn ts tf ex (HandSHeadRun.getT s)
theorem ob_eq (s : PySem.W.SharedT) : ob s = hk.obs s.abs := He.obsX_eq (HandSHeadRun.getT_eq s)
def names : List PySem.Str := (["PileError", "TooGreat", "NoText", "NoDeed", "NoKey", "NoRoom", "MOST", "HIGHEST", "ten", "figures_of", "height", "taken", "by_size", "fitted", "power_for", "exact", "_law_cell_at", "_law_mixed", "_law_drawn", "_law_ten"] : List PySem.Str) ++ (["_law_height", "_law_tidy", "_law_number", "_law_is_number", "_law_told", "_law_fraction", "_law_side", "_law_far", "_law_is_farther"] : List PySem.Str)
theorem run (w : World) : HandSHeadRun.RunEq R (PySem.W.view R.prog [32]) hk ob 3000 names w := by
  intro os
  kernel_rfl
theorem top_of {w : World} {K : PySem.W.Frag} {h : Heap} {mg : Str → Option Value} (X : K.In h) (G : h.Ns mainGlobals mg) (c : He.SaysX fa fn ts tf ex w h K) : Top w K mg :=
  ⟨(c.t.d.def_ 0 (d := dd_ten) rfl),
   (He.glo_ok X G (c.t.d.fact 0 (f := .glo "ten") rfl)),
   (c.t.d.def_ 1 (d := dd_figures_of) rfl),
   (He.glo_ok X G (c.t.d.fact 1 (f := .glo "figures_of") rfl)),
   (c.t.d.def_ 2 (d := dd_height) rfl),
   (He.glo_ok X G (c.t.d.fact 2 (f := .glo "height") rfl)),
   (c.t.d.def_ 3 (d := dd_taken) rfl),
   (He.glo_ok X G (c.t.d.fact 3 (f := .glo "taken") rfl)),
   (c.t.d.def_ 4 (d := dd_by_size) rfl),
   (He.glo_ok X G (c.t.d.fact 4 (f := .glo "by_size") rfl)),
   (c.t.d.def_ 5 (d := dd_fitted) rfl),
   (He.glo_ok X G (c.t.d.fact 5 (f := .glo "fitted") rfl)),
   (c.t.d.def_ 6 (d := dd_power_for) rfl),
   (He.glo_ok X G (c.t.d.fact 6 (f := .glo "power_for") rfl)),
   (c.t.d.def_ 7 (d := dd_exact) rfl),
   (He.glo_ok X G (c.t.d.fact 7 (f := .glo "exact") rfl)),
   (c.t.d.def_ 8 (d := dd__law_cell_at) rfl),
   (He.glo_ok X G (c.t.d.fact 8 (f := .glo "_law_cell_at") rfl)),
   (c.t.d.def_ 9 (d := dd__law_mixed) rfl),
   (He.glo_ok X G (c.t.d.fact 9 (f := .glo "_law_mixed") rfl)),
   (c.t.d.def_ 10 (d := dd__law_ten) rfl),
   (He.glo_ok X G (c.t.d.fact 10 (f := .glo "_law_ten") rfl)),
   (c.t.d.def_ 11 (d := dd__law_height) rfl),
   (He.glo_ok X G (c.t.d.fact 11 (f := .glo "_law_height") rfl)),
   (c.t.d.def_ 12 (d := dd__law_is_number) rfl),
   (He.glo_ok X G (c.t.d.fact 12 (f := .glo "_law_is_number") rfl)),
   (c.t.d.def_ 13 (d := dd__law_told) rfl),
   (He.glo_ok X G (c.t.d.fact 13 (f := .glo "_law_told") rfl)),
   (c.t.d.def_ 14 (d := dd__law_fraction) rfl),
   (He.glo_ok X G (c.t.d.fact 14 (f := .glo "_law_fraction") rfl)),
   (c.t.d.def_ 15 (d := dd__law_side) rfl),
   (He.glo_ok X G (c.t.d.fact 15 (f := .glo "_law_side") rfl)),
   (c.t.d.def_ 16 (d := dd__law_far) rfl),
   (He.glo_ok X G (c.t.d.fact 16 (f := .glo "_law_far") rfl)),
   (c.t.d.def_ 17 (d := dd__law_is_farther) rfl),
   (He.glo_ok X G (c.t.d.fact 17 (f := .glo "_law_is_farther") rfl)),
   (c.t.d.def_ 18 (d := dd_law) rfl),
   (He.glo_ok X G (c.t.d.fact 18 (f := .glo "law") rfl)),
   (He.free_ok X G (c.t.d.fact 19 (f := .free "int") rfl)),
   (He.free_ok X G (c.t.d.fact 20 (f := .free "abs") rfl)),
   (He.free_ok X G (c.t.d.fact 21 (f := .free "str") rfl)),
   (He.free_ok X G (c.t.d.fact 22 (f := .free "len") rfl)),
   (He.free_ok X G (c.t.d.fact 23 (f := .free "max") rfl)),
   (He.free_ok X G (c.t.d.fact 24 (f := .free "range") rfl)),
   (He.free_ok X G (c.t.d.fact 25 (f := .free "tuple") rfl)),
   (He.free_ok X G (c.t.d.fact 26 (f := .free "isinstance") rfl)),
   (He.free_ok X G (c.t.d.fact 27 (f := .free "bool") rfl)),
   (He.free_ok X G (c.t.d.fact 28 (f := .free "zip") rfl)),
   (He.int_ok X G (c.t.d.fact 29 (f := .int "HIGHEST" (40)) rfl)),
   (He.int_ok X G (c.t.d.fact 30 (f := .int "MOST" (8)) rfl)),
   (exc_n X G (c.t.d.fact 31 (f := .glo "TooGreat") rfl) (c.t.d.fact 32 (f := .exc "TooGreat") rfl)),
   (told_c (toldB_ok (He.ba c.more).1) (He.glo_ok X G (c.t.d.fact 31 (f := .glo "TooGreat") rfl)) (He.glo_ok X G (c.t.d.fact 33 (f := .glo "NoText") rfl)) (He.glo_ok X G (c.t.d.fact 34 (f := .glo "NoDeed") rfl)) (He.glo_ok X G (c.t.d.fact 35 (f := .glo "NoKey") rfl)) (He.glo_ok X G (c.t.d.fact 36 (f := .glo "NoRoom") rfl)) (He.glo_ok X G (c.t.d.fact 37 (f := .glo "PileError") rfl)) (He.free_ok X G (c.t.d.fact 26 (f := .free "isinstance") rfl)) (He.free_ok X G (c.t.d.fact 38 (f := .free "ValueError") rfl))),
   (huB_ok (He.ba (He.ba c.more).2).1)⟩
theorem law_end {l : PySem.W.OpenLaw} {w : World} {K : PySem.W.Frag} {h : Heap} {mg : Str → Option Value} {f : Addr} (X : K.In h) (G : h.Ns mainGlobals mg) (hfa : mg ("law" : Str) = some (.ref f)) (c : He.SaysX fa fn ts tf ex w h K) : LamX.LawAtS l w K (L2.CX l.prog w) 7 63 "script" mg f h := by
  have Z := top_of X G c
  have e := hfa.symm.trans Z.m_law
  cases e
  obtain ⟨fd, Fd⟩ := Z.f_law
  have b := FunD.bindsA (ps := ["script"]) Fd fun _ _ _ _ _ _ us hl => match us, hl with | [_], _ => rfl
  refine lawAtT (T := tabT K) (tf := tf) X c.hd c.out c.empty (fun p hp => ?_) (fd := fd) (den := d_law) (fun s v => b s [v] rfl) law_true fun base h1 h2 h3 => ?_
  · unfold tabT at hp
    simp only [List.mem_cons, List.not_mem_nil, or_false] at hp
    rcases hp with rfl
    · exact ⟨("law", none), by unfold tf; simp, rfl⟩
  · exact law_fn Z h3 Fd
end LW
open PySem PySem.W PySem.Calls PyProof.Rows
set_option maxRecDepth 100000 in
set_option maxHeartbeats 0 in
theorem PySem.Challenge.cw_pocketpile_k05_whole_nearest_holds : PySem.Challenge.rw_pocketpile_k05_whole_nearest.Holds := by
  w_on; o_law
  refine HandSHeadRun.head_any (r := OpenLaw.row PySem.Challenge.rw_pocketpile_k05_whole_nearest) (q := view (OpenLaw.row PySem.Challenge.rw_pocketpile_k05_whole_nearest).prog [32]) (H := LW.hk) (ob := LW.ob) (M := 3000) (loose := LW.names) (d := HandSHeadRun.topDef (OpenLaw.row PySem.Challenge.rw_pocketpile_k05_whole_nearest).prog 32) (kwd := []) LW.ob_eq
    (by kernel_rfl) (fun s => by kernel_rfl) LW.run (by kernel_rfl) (by kernel_rfl) (by kernel_rfl) (by rfl) (by first | assumption | decide +kernel) (by decide +kernel) ⟨rfl, rfl, rfl, rfl, rfl, by decide +kernel⟩ ?hw ?hc
  case hw => w_witness2
  case hc =>
    refine LamX.walk_ofTsE (l := PySem.Challenge.rw_pocketpile_k05_whole_nearest) (n := 63) (k := 7) (x := "script") (CX := fun w => L2.CX (PySem.Challenge.rw_pocketpile_k05_whole_nearest).prog w) rfl (by decide) (by kernel_rfl) ⟨rfl, by decide, by decide⟩ ?F (fun _ _ _ _ _ z => DN.cx_false z)
    intro w mg fa h Y G hmg0
    obtain ⟨K, KX, c⟩ := Y
    have hmg : mg ("law" : PySem.Str) = some (.ref fa) := by
      have e : (HandSHeadRun.topDef (OpenLaw.row PySem.Challenge.rw_pocketpile_k05_whole_nearest).prog 32).name = ("law" : PySem.Str) := by kernel_rfl
      rw [← e]
      exact hmg0
    exact ⟨K, KX, LW.law_end (l := PySem.Challenge.rw_pocketpile_k05_whole_nearest) KX G hmg c⟩
